import PyProof.Rows.All
import Wide.All
import OpenK.AllK
import Wide.FinOn
import HandS.ForMost
import HandS.EndBits
import HandS.Style
import HandS.CallLocal
import KE.SortData
import PyProof.NeData
import HandS.ExcValue
import HandS.ExcInit
import HandS.ExcField
import HandS.ExcBuiltin
import HandS.IsInst
import KE.KExcIs
import KE.KExcSuper
import HandS.NestedK
import KE.DataEq
import HandS.Defaults
import HandS.Head0
import HandS.Head1
import HandS.Head2
import HandS.HeadHook1
import HandS.HeadHook2
import HandS.HeadHook3
import HandS.HeadHook4
import HandS.Walk
import PySem.Challenge.RW_runsasshown_k00_errors_apart
set_option Elab.async false
set_option linter.all false
set_option maxRecDepth 100000
set_option maxHeartbeats 8000000
/-! RS: rules on top of the hand layer that our proofs share: walks of lists or tuples, joined operators, data in the abstract heap, repr, defs told by their names. -/
namespace RS
open PySem PySem.Spec PyProof.Rows L2

/-! ### tests whose answer is known, heaps -/
theorem upd_at {H : Hp} {a b : Addr} {o : HO} (h : b = a) : upd H a o b = some o := by subst h; exact upd_same

/-! ### a for over a list or a tuple -/
def iSeq (K : PySem.W.Frag) (tl : TE) : TI := fun σ H R => tl σ H fun x H1 => ∃ a, x = .ref a ∧ (((∃ xs, SqL K H1 a xs) ∧ R (Itl K a) H1) ∨ ((∃ xs, SqT K H1 a xs) ∧ R (Itt K a) H1))
theorem pi_seq {X : Cx} {tg l : Expr} {tl : TE} (hl : PE X l tl) : PI X tg l (iSeq X.K tl) := by
  refine ⟨fun pins s σ H R I h => thn (hl.run pins s σ H _ I h) fun v s1 ⟨x, H1, I1, r1, a, e, q⟩ => ?_⟩
  subst e; cases r1
  have fp : ∀ b ∈ [s1.heap.objs.size], FpOk X pins H1 b := fun b hb => by
    rw [List.mem_singleton.mp hb]; exact I1.fpOk (Nat.le_refl _) (I1.hok.fresh (Nat.le_refl _))
  rcases q with ⟨⟨xs, hq⟩, q⟩ | ⟨⟨xs, hq⟩, q⟩
  · obtain ⟨its, _, p, _⟩ := I1.list hq
    exact wpAny_pyIter_list p.isList ⟨s1.heap.objs.size, [s1.heap.objs.size], _, _, H1, rfl, I1.kept (t' := s1.toks) (fun b o e => Heap.get?_push_of_some _ e), turn_list a _, ⟨_, Heap.get?_push_size _ rfl, rfl, rfl⟩, fp, q⟩
  · obtain ⟨its, _, p, _⟩ := I1.tuple hq
    exact wpAny_pyIter_tuple (show s1.heap.IsTuple a its.toArray from p) ⟨s1.heap.objs.size, [s1.heap.objs.size], _, _, H1, rfl, I1.kept (t' := s1.toks) (fun b o e => Heap.get?_push_of_some _ e), turn_tuple a _, ⟨_, Heap.get?_push_size _ rfl, rfl, rfl⟩, fp, q⟩

/-! ### operators joined over the kinds of values -/
section
variable {X : Cx}
/-- + (a structure, so that the unifier opens the other side) -/
structure rAddU (K : PySem.W.Frag) (x y : V) (H : Hp) (Q : VK) : Prop where
  or : (∃ i j, x = .int i ∧ y = .int j ∧ Q (.int (i + j)) H) ∨ ((∃ i j, x = .str i ∧ y = .str j ∧ i.length + j.length ≤ sizeLine ∧ Q (.str (i ++ j)) H) ∨ (rCat x y H Q ∨ rCatT K x y H Q))
theorem OpR.mono {f : Value → Value → Sem Value} {r r' : R2} (h : OpR X f r) (m : ∀ x y H Q, r' x y H Q → r x y H Q) : OpR X f r' :=
  fun pins s σ H x y v u Q I rx ry q => h pins s σ H x y v u Q I rx ry (m x y H Q q)
theorem uAdd : OpR X (binaryOp .Add) (rAddU X.K) := OpR.mono (OpR.or op_add (OpR.or op_add_str (OpR.or op_cat op_catT))) fun _ _ _ _ h => h.or
theorem add_i {K : PySem.W.Frag} {i j : Int} {H : Hp} {Q : VK} (h : Q (.int (i + j)) H) : rAddU K (.int i) (.int j) H Q := ⟨.inl ⟨i, j, rfl, rfl, h⟩⟩
theorem add_s {K : PySem.W.Frag} {i j : Str} {H : Hp} {Q : VK} (hl : i.length + j.length ≤ sizeLine) (h : Q (.str (i ++ j)) H) : rAddU K (.str i) (.str j) H Q := ⟨.inr (.inl ⟨i, j, rfl, rfl, hl, h⟩)⟩
theorem add_l {K : PySem.W.Frag} {l b : Addr} {xs zs : List V} {H : Hp} {Q : VK} (h1 : H l = some (.lst xs)) (h2 : H b = some (.lst zs)) (hl : xs.length + zs.length ≤ sizeLine) (h : ∀ p, H p = none → Q (.ref p) (upd H p (.lst (xs ++ zs)))) :
    rAddU K (.ref l) (.ref b) H Q := ⟨.inr (.inr (.inl ⟨l, b, xs, zs, rfl, rfl, h1, h2, hl, h⟩))⟩
/-- * -/
structure rMulU (x y : V) (H : Hp) (Q : VK) : Prop where
  or : rI CMul (fun i j => .int (i * j)) x y H Q ∨ rRep x y H Q
theorem uMul : OpR X (binaryOp .Mult) rMulU := OpR.mono (OpR.or op_mul op_rep) fun _ _ _ _ h => h.or
theorem mul_i {i j : Int} {H : Hp} {Q : VK} (hc : CMul i j) (h : Q (.int (i * j)) H) : rMulU (.int i) (.int j) H Q := ⟨.inl ⟨i, j, rfl, rfl, hc, h⟩⟩
theorem mul_l {l : Addr} {k : Int} {xs : List V} {H : Hp} {Q : VK} (h : rRep (.ref l) (.int k) H Q) : rMulU (.ref l) (.int k) H Q := ⟨.inr h⟩
/-- lists of unlike lengths, or both empty -/
def rEqNil (K : PySem.W.Frag) (neg : Bool) : R2 := fun x y H Q => ∃ a b xs, x = .ref a ∧ y = .ref b ∧ SqL K H a xs ∧ SqL K H b [] ∧ Q (.bl (xor neg xs.isEmpty)) H
theorem isL {s : Shared} {pins : List (Addr × Obj)} {σ : L2.St} {H : Hp} {a : Addr} {xs : List V} (I : Inv X pins σ H s) (h : SqL X.K H a xs) : ∃ its : List Value, s.heap.IsList a its.toArray ∧ its.length = xs.length := by
  obtain ⟨its, rv, p, _⟩ := I.list h
  exact ⟨its, p.isList, rv.length.symm⟩
theorem op_eqNil (hu : X.A.units + 64 < cLine) : OpR X (compareOp .Eq) (rEqNil X.K false) := by
  intro pins s σ H x y v u Q I rx ry h
  obtain ⟨a, b, xs, rfl, rfl, ha, hb, q⟩ := h
  cases rx; cases ry
  obtain ⟨i1, l1, e1⟩ := isL I ha
  obtain ⟨i2, l2, e2⟩ := isL I hb
  have e2' : i2 = [] := List.length_eq_zero_iff.mp e2
  subst e2'
  cases xs with
  | nil =>
    have e1' : i1 = [] := List.length_eq_zero_iff.mp e1
    subst e1'
    exact SeqAt.eq_listAt (e := fun _ => true) l1 l2 rfl (by omega) (fun j h1 => absurd h1 (Nat.not_lt_zero j)) ⟨.bl true, H, I, rfl, q⟩
  | cons x xs => exact SeqAt.eq_list_lengthsAt l1 l2 (by simp [e1]) (by omega) ⟨.bl false, H, I, rfl, q⟩
theorem op_neNil (hu : X.A.units + 64 < cLine) : OpR X (compareOp .NotEq) (rEqNil X.K true) := by
  intro pins s σ H x y v u Q I rx ry h
  obtain ⟨a, b, xs, rfl, rfl, ha, hb, q⟩ := h
  cases rx; cases ry
  obtain ⟨i1, l1, e1⟩ := isL I ha
  obtain ⟨i2, l2, e2⟩ := isL I hb
  have e2' : i2 = [] := List.length_eq_zero_iff.mp e2
  subst e2'
  cases xs with
  | nil =>
    have e1' : i1 = [] := List.length_eq_zero_iff.mp e1
    subst e1'
    exact SeqAt.RcNeAt.lists (e := fun _ => true) l1 l2 rfl (by omega) (fun j h1 => absurd h1 (Nat.not_lt_zero j)) _ _ _ _ ⟨.bl false, H, I, rfl, q⟩
  | cons x xs => exact SeqAt.RcNeAt.lists_lengths l1 l2 (by simp [e1]) (by omega) _ _ _ _ ⟨.bl true, H, I, rfl, q⟩
/-- == and != : flat values; a list and []; data of any depth -/
structure rEqU (K : PySem.W.Frag) (neg : Bool) (x y : V) (H : Hp) (Q : VK) : Prop where
  or : (scal x y = true ∧ Q (.bl (xor neg (decide (x = y)))) H) ∨ (rEqNil K neg x y H Q ∨ ∃ d e, Dp K H x d ∧ Dp K H y e ∧ SeqAt.shaped d = true ∧ SeqAt.shaped e = true ∧ Q (.bl (xor neg (PyData.eqv d e))) H)
theorem uEq (hu : X.A.units + 64 < cLine) : OpR X (compareOp .Eq) (rEqU X.K false) :=
  OpR.mono (OpR.or op_eq (OpR.or (op_eqNil hu) (op_eqD hu))) fun x y H Q h => by
    rcases h.or with ⟨h1, h2⟩ | h | ⟨d, e, h1, h2, h3, h4, h5⟩
    · exact .inl ⟨h1, by simpa using h2⟩
    · exact .inr (.inl h)
    · exact .inr (.inr ⟨d, e, h1, h2, h3, h4, by simpa using h5⟩)
theorem uNe (hu : X.A.units + 64 < cLine) : OpR X (compareOp .NotEq) (rEqU X.K true) :=
  OpR.mono (OpR.or op_ne (OpR.or (op_neNil hu) (op_neD hu))) fun x y H Q h => by
    rcases h.or with ⟨h1, h2⟩ | h | ⟨d, e, h1, h2, h3, h4, h5⟩
    · exact .inl ⟨h1, by simpa using h2⟩
    · exact .inr (.inl h)
    · exact .inr (.inr ⟨d, e, h1, h2, h3, h4, by simpa using h5⟩)
theorem eq_f {K : PySem.W.Frag} {neg : Bool} {x y : V} {H : Hp} {Q : VK} {b : Bool} (hs : scal x y = true) (hb : xor neg (decide (x = y)) = b) (h : Q (.bl b) H) : rEqU K neg x y H Q := ⟨.inl ⟨hs, by rw [hb]; exact h⟩⟩
theorem eq_n {K : PySem.W.Frag} {neg : Bool} {a p : Addr} {xs : List V} {H : Hp} {Q : VK} {b : Bool} (h1 : SqL K H a xs) (h2 : SqL K H p []) (hb : xor neg xs.isEmpty = b) (h : Q (.bl b) H) : rEqU K neg (.ref a) (.ref p) H Q :=
  ⟨.inr (.inl ⟨a, p, xs, rfl, rfl, h1, h2, by rw [hb]; exact h⟩)⟩
theorem eq_d {K : PySem.W.Frag} {neg : Bool} {x y : V} {d e : PyData} {H : Hp} {Q : VK} {b : Bool} (h1 : Dp K H x d) (h2 : Dp K H y e) (h3 : SeqAt.shaped d = true) (h4 : SeqAt.shaped e = true) (hb : xor neg (PyData.eqv d e) = b) (h : Q (.bl b) H) : rEqU K neg x y H Q :=
  ⟨.inr (.inr ⟨d, e, h1, h2, h3, h4, by rw [hb]; exact h⟩)⟩
/-- in, not in: a sign in a text is left out; flat values in a list or a tuple, a text in a text -/
structure rInU (K : PySem.W.Frag) (neg : Bool) (x y : V) (H : Hp) (Q : VK) : Prop where
  or : rIn K neg x y H Q ∨ ∃ i j, x = .str i ∧ y = .str j ∧ Q (.bl (xor neg (!(Builtin.Str.occurrences j i 0 j.length 1).isEmpty))) H
theorem uIn : OpR X (compareOp .In) (rInU X.K false) := OpR.mono (OpR.or op_in_seq op_in_str) fun x y H Q h => by
  rcases h.or with h | ⟨i, j, h1, h2, h3⟩
  · exact .inl h
  · exact .inr ⟨i, j, h1, h2, by simpa using h3⟩
theorem uNotIn : OpR X (compareOp .NotIn) (rInU X.K true) := OpR.mono (OpR.or op_notIn_seq op_notin_str) fun x y H Q h => by
  rcases h.or with h | ⟨i, j, h1, h2, h3⟩
  · exact .inl h
  · exact .inr ⟨i, j, h1, h2, by simpa using h3⟩
theorem in_t {K : PySem.W.Frag} {neg : Bool} {x : V} {p : Addr} {xs : List V} {H : Hp} {Q : VK} {b : Bool} (h1 : SqT K H p xs) (hf : flatV x = true) (hx : xs.all flatV = true) (hb : xor neg (inV x xs) = b) (h : Q (.bl b) H) : rInU K neg x (.ref p) H Q :=
  ⟨.inl ⟨p, xs, rfl, .inr h1, hf, hx, by cases neg <;> simpa [← hb] using h⟩⟩
theorem in_l {K : PySem.W.Frag} {neg : Bool} {x : V} {p : Addr} {xs : List V} {H : Hp} {Q : VK} {b : Bool} (h1 : SqL K H p xs) (hf : flatV x = true) (hx : xs.all flatV = true) (hb : xor neg (inV x xs) = b) (h : Q (.bl b) H) : rInU K neg x (.ref p) H Q :=
  ⟨.inl ⟨p, xs, rfl, .inl h1, hf, hx, by cases neg <;> simpa [← hb] using h⟩⟩
theorem uLen : CallR X (.builtin "len") (fun xs H Q => ∃ x n, xs = [x] ∧ LenV X.K x H n ∧ Q (.int n) H) := call_len
end

/-! ### the same, the written part told by a letter (within a comprehension's block) -/
theorem uAddK {X : Cx} {K : PySem.W.Frag} (h : X.K = K) : OpR X (binaryOp .Add) (rAddU K) := h ▸ uAdd
theorem uEqK {X : Cx} {K : PySem.W.Frag} (h : X.K = K) (hu : X.A.units + 64 < cLine) : OpR X (compareOp .Eq) (rEqU K false) := h ▸ uEq hu
theorem uNeK {X : Cx} {K : PySem.W.Frag} (h : X.K = K) (hu : X.A.units + 64 < cLine) : OpR X (compareOp .NotEq) (rEqU K true) := h ▸ uNe hu
theorem uInK {X : Cx} {K : PySem.W.Frag} (h : X.K = K) : OpR X (compareOp .In) (rInU K false) := h ▸ uIn
theorem uNotInK {X : Cx} {K : PySem.W.Frag} (h : X.K = K) : OpR X (compareOp .NotIn) (rInU K true) := h ▸ uNotIn
theorem ixK {X : Cx} {K : PySem.W.Frag} (h : X.K = K) : IxR X (rIx K) := h ▸ ix_seq

/-! ### and, or of tests: a structure, so that the unifier opens the other side -/
structure tW (t : TT) (σ : L2.St) (H : Hp) (Q : Bool → Hp → Prop) : Prop where
  h : t σ H Q
theorem pt_w {X : Cx} {e : Expr} {t : TT} (h : PT X e t) : PT X e (tW t) := ⟨fun pins s σ H Q I q => h.run pins s σ H Q I q.h⟩
/-- a test whose answer is known -/
def Val (t : TT) (σ : L2.St) (H : Hp) (b : Bool) : Prop := ∀ Q : Bool → Hp → Prop, Q b H → t σ H Q
theorem Val.and {tA tB : TT} {σ : L2.St} {H : Hp} {a b : Bool} (hA : Val tA σ H a) (hB : a = true → Val tB σ H b) : Val (tAnd tA tB) σ H (a && b) := fun Q h => by
  refine hA _ ?_
  cases a with
  | true => exact iteT (hB rfl _ h)
  | false => exact iteF h
theorem Val.or {tA tB : TT} {σ : L2.St} {H : Hp} {a b : Bool} (hA : Val tA σ H a) (hB : a = false → Val tB σ H b) : Val (tOr tA tB) σ H (a || b) := fun Q h => by
  refine hA _ ?_
  cases a with
  | true => exact iteT h
  | false => exact iteF (hB rfl _ h)
theorem w_val {t : TT} {σ : L2.St} {H : Hp} {Q : Bool → Hp → Prop} (b : Bool) (hv : Val t σ H b) (h : Q b H) : tW t σ H Q := ⟨hv _ h⟩

/-! ### data: atoms and tuples -/
mutual
inductive Dt (K : PySem.W.Frag) (H : Hp) : V → PyData → Prop
  | non : Dt K H .non .none
  | bl (b : Bool) : Dt K H (.bl b) (.bool b)
  | int (i : Int) : Dt K H (.int i) (.int i)
  | str (x : Str) : Dt K H (.str x) (.str x)
  | tup {a : Addr} {xs : List V} {ds : List PyData} : SqT K H a xs → DtAll K H xs ds → Dt K H (.ref a) (.tuple ds)
inductive DtAll (K : PySem.W.Frag) (H : Hp) : List V → List PyData → Prop
  | nil : DtAll K H [] []
  | cons {v : V} {vs : List V} {d : PyData} {ds : List PyData} : Dt K H v d → DtAll K H vs ds → DtAll K H (v :: vs) (d :: ds)
end
/-- the tuples stay -/
def TK (K : PySem.W.Frag) (H H' : Hp) : Prop := ∀ a xs, SqT K H a xs → SqT K H' a xs
theorem TK.refl {K : PySem.W.Frag} (H : Hp) : TK K H H := fun _ _ h => h
theorem TK.trans {K : PySem.W.Frag} {H H1 H2 : Hp} (a : TK K H H1) (b : TK K H1 H2) : TK K H H2 := fun c xs h => b c xs (a c xs h)
theorem TK.of {K : PySem.W.Frag} {H H' : Hp} (h : ∀ a xs, H a = some (.tup xs) → H' a = some (.tup xs)) (h2 : ∀ a o u, H a = some (.frz o u) → H' a = some (.frz o u)) : TK K H H' := fun a xs q => by
  rcases q with (q | ⟨o, q⟩) | q
  · exact .inl (.inl (h _ _ q))
  · exact .inl (.inr ⟨o, h2 _ _ _ q⟩)
  · exact .inr q
theorem TK.same {K : PySem.W.Frag} {H H' : Hp} (e : Same H H') : TK K H H' := TK.of (fun _ _ h => e _ _ h) fun _ _ _ h => e _ _ h
theorem TK.new {K : PySem.W.Frag} {H : Hp} {p : Addr} {o : HO} (h : H p = none) : TK K H (upd H p o) := TK.same fun b u e => by rw [upd_ne (ne_of_none e h)]; exact e
theorem TK.lst {K : PySem.W.Frag} {H : Hp} {p : Addr} {xs : List V} {o : HO} (h : H p = some (.lst xs)) : TK K H (upd H p o) :=
  TK.of (fun a ys e => by rw [upd_ne (ne_of e h (by intro z; cases z))]; exact e) fun a u w e => by rw [upd_ne (ne_of e h (by intro z; cases z))]; exact e
theorem TK.dK {K : PySem.W.Frag} {H : Hp} {p : Addr} {xs : List (Key × V)} {o : HO} (h : H p = some (.dK xs)) : TK K H (upd H p o) :=
  TK.of (fun a ys e => by rw [upd_ne (ne_of e h (by intro z; cases z))]; exact e) fun a u w e => by rw [upd_ne (ne_of e h (by intro z; cases z))]; exact e
mutual
theorem Dt.keep {K : PySem.W.Frag} {H H' : Hp} (t : TK K H H') : ∀ {v : V} (d : PyData), Dt K H v d → Dt K H' v d
  | _, _, .non => .non
  | _, _, .bl b => .bl b
  | _, _, .int i => .int i
  | _, _, .str x => .str x
  | _, _, .tup h r => .tup (t _ _ h) (DtAll.keep t _ r)
theorem DtAll.keep {K : PySem.W.Frag} {H H' : Hp} (t : TK K H H') : ∀ {vs : List V} (ds : List PyData), DtAll K H vs ds → DtAll K H' vs ds
  | _, _, .nil => .nil
  | _, _, .cons h r => .cons (Dt.keep t _ h) (DtAll.keep t _ r)
end
mutual
theorem Dt.dp {K : PySem.W.Frag} {H : Hp} : ∀ {v : V} (d : PyData), Dt K H v d → Dp K H v d
  | _, _, .non => .non
  | _, _, .bl b => .bl b
  | _, _, .int i => .int i
  | _, _, .str x => .str x
  | _, _, .tup h r => .tup h (DtAll.dp _ r)
theorem DtAll.dp {K : PySem.W.Frag} {H : Hp} : ∀ {vs : List V} (ds : List PyData), DtAll K H vs ds → DpAll K H vs ds
  | _, _, .nil => .nil
  | _, _, .cons h r => .cons (Dt.dp _ h) (DtAll.dp _ r)
end
theorem DtAll.length {K : PySem.W.Frag} {H : Hp} : ∀ {vs : List V} {ds : List PyData}, DtAll K H vs ds → vs.length = ds.length
  | _, _, .nil => rfl
  | _, _, .cons _ r => by rw [List.length_cons, List.length_cons, r.length]
theorem DtAll.append {K : PySem.W.Frag} {H : Hp} : ∀ {vs ws : List V} {ds es : List PyData}, DtAll K H vs ds → DtAll K H ws es → DtAll K H (vs ++ ws) (ds ++ es)
  | _, _, _, _, .nil, s => s
  | _, _, _, _, .cons h r, s => .cons h (r.append s)
theorem DtAll.get {K : PySem.W.Frag} {H : Hp} : ∀ {vs : List V} {ds : List PyData} {i : Nat} {v : V}, DtAll K H vs ds → vs[i]? = some v → ∃ d, ds[i]? = some d ∧ Dt K H v d
  | _, _, _, _, .nil, e => by simp at e
  | _, _, 0, _, .cons h _, e => by simp at e; subst e; exact ⟨_, rfl, h⟩
  | _, _, i + 1, v, .cons _ r, e => by
    obtain ⟨d, h1, h2⟩ := DtAll.get (i := i) (v := v) r (by simpa using e)
    exact ⟨d, by simpa using h1, h2⟩
theorem DtAll.get' {K : PySem.W.Frag} {H : Hp} : ∀ {vs : List V} {ds : List PyData} {i : Nat} {d : PyData}, DtAll K H vs ds → ds[i]? = some d → ∃ v, vs[i]? = some v ∧ Dt K H v d
  | _, _, _, _, .nil, e => by simp at e
  | _, _, 0, _, .cons h _, e => by simp at e; subst e; exact ⟨_, rfl, h⟩
  | _, _, i + 1, d, .cons _ r, e => by
    obtain ⟨v, h1, h2⟩ := DtAll.get' (i := i) (d := d) r (by simpa using e)
    exact ⟨v, by simpa using h1, h2⟩
theorem DtAll.reverse {K : PySem.W.Frag} {H : Hp} : ∀ {vs : List V} {ds : List PyData}, DtAll K H vs ds → DtAll K H vs.reverse ds.reverse
  | _, _, .nil => .nil
  | _, _, .cons h r => by rw [List.reverse_cons, List.reverse_cons]; exact r.reverse.append (.cons h .nil)
theorem DtAll.dropLast {K : PySem.W.Frag} {H : Hp} : ∀ {vs : List V} {ds : List PyData}, DtAll K H vs ds → DtAll K H vs.dropLast ds.dropLast
  | _, _, .nil => .nil
  | _, _, .cons h .nil => .nil
  | _, _, .cons h (.cons h2 r) => .cons h (DtAll.dropLast (.cons h2 r))

/-! ### displays: structures, so that the unifier opens the other side -/
theorem line_of {n : Nat} (h : n ≤ 1000) : n ≤ sizeLine := by rw [sizeLine_eq]; omega
theorem lt_line {n : Nat} (h : n ≤ 1000) : n < sizeLine := by rw [sizeLine_eq]; omega
theorem same_new {H : Hp} {p : Addr} {o : HO} (h : H p = none) : Same H (upd H p o) := fun b u e => by rw [upd_ne (ne_of_none e h)]; exact e
structure rNewT (xs : List V) (H : Hp) (Q : VK) : Prop where
  h : xs.length ≤ sizeLine ∧ ∀ p, H p = none → Q (.ref p) (upd H p (.tup xs))
structure rNewL (xs : List V) (H : Hp) (Q : VK) : Prop where
  h : xs.length ≤ sizeLine ∧ ∀ p, H p = none → Q (.ref p) (upd H p (.lst xs))
theorem PE.mono {X : Cx} {e : Expr} {t t' : TE} (h : PE X e t) (m : ∀ σ H Q, t' σ H Q → t σ H Q) : PE X e t' := ⟨fun pins s σ H Q I q => h.run pins s σ H Q I (m σ H Q q)⟩
theorem PA.mono {X : Cx} {es : List Expr} {t : TA} (h : PA X es t) {σ : L2.St} {H : Hp} {Q Q' : List V → Hp → Prop} (q : t σ H Q) (m : ∀ xs H1, Q xs H1 → Q' xs H1) (pos : Pos) (pins : List (Addr × Obj)) (s : Shared) (I : Inv X pins σ H s) :
    wpAny (model X.prog X.w) X.A (spliced (backTo pos (starEach es X.env))) (AP X pins σ Q') X.xe s :=
  thn (h.run pos pins s σ H Q I q) fun us s1 ⟨xs, H1, I1, r, q1⟩ => ⟨xs, H1, I1, r, m xs H1 q1⟩
def tTupN (t : TA) : TE := fun σ H Q => t σ H fun xs H1 => rNewT xs H1 Q
def tLstN (t : TA) : TE := fun σ H Q => t σ H fun xs H1 => rNewL xs H1 Q
theorem pe_tupN {X : Cx} {es : List Expr} {t : TA} {x1 : Nat} {pos : Pos} (h : PA X es t) : PE X (.Tuple es x1 pos) (tTupN t) := by
  refine ⟨fun pins s σ H Q I q => wpAny_Tuple_spliced (thn (h.run pos pins s σ H _ I q) fun us s1 ⟨xs, H1, I1, r, ⟨z, q⟩⟩ => ⟨by rw [← r.length]; exact z, ?_⟩)⟩
  have nf : H1 s1.heap.objs.size = none := I1.hok.fresh (Nat.le_refl _)
  exact ⟨.ref s1.heap.objs.size, upd H1 s1.heap.objs.size (.tup xs), I1.laid (t' := s1.toks) (fun b u e => Heap.get?_push_of_some _ e) (Nat.le_refl _) ⟨z, us, r, ⟨_, Heap.get?_push_size _ rfl, rfl, _, rfl⟩⟩, rfl, q _ nf⟩
theorem pe_lstN {X : Cx} {es : List Expr} {t : TA} {pos : Pos} (h : PA X es t) : PE X (.List es pos) (tLstN t) := by
  refine ⟨fun pins s σ H Q I q => wpAny_List_spliced (thn (h.run pos pins s σ H _ I q) fun us s1 ⟨xs, H1, I1, r, ⟨z, q⟩⟩ => ⟨by rw [← r.length]; exact z, ?_⟩)⟩
  have nf : H1 s1.heap.objs.size = none := I1.hok.fresh (Nat.le_refl _)
  exact ⟨.ref s1.heap.objs.size, upd H1 s1.heap.objs.size (.lst xs), I1.laid (t' := s1.toks) (fun b u e => Heap.get?_push_of_some _ e) (Nat.le_refl _) ⟨z, us, 0, r, Heap.get?_push_size _ rfl⟩, rfl, q _ nf⟩
theorem tup_new {K : PySem.W.Frag} {H : Hp} {xs : List V} {ds : List PyData} {Q : VK} (h : DtAll K H xs ds) (hz : xs.length ≤ 1000) (k : ∀ v H', Same H H' → Dt K H' v (.tuple ds) → Q v H') : rNewT xs H Q :=
  ⟨line_of hz, fun p np => k _ _ (same_new np) (.tup (SqT.of upd_same) (DtAll.keep (TK.new np) _ h))⟩
theorem tup_at {H : Hp} {xs : List V} {Q : VK} (hz : xs.length ≤ 1000) (k : ∀ p, H p = none → Q (.ref p) (upd H p (.tup xs))) : rNewT xs H Q := ⟨line_of hz, k⟩
theorem lst_new {H : Hp} {xs : List V} {Q : VK} (hz : xs.length ≤ 1000) (k : ∀ p, H p = none → Q (.ref p) (upd H p (.lst xs))) : rNewL xs H Q := ⟨line_of hz, k⟩
theorem Dt.same {K : PySem.W.Frag} {H H' : Hp} {v : V} {d : PyData} (h : Dt K H v d) (e : Same H H') : Dt K H' v d := Dt.keep (TK.same e) _ h

/-! ### what holds behind a statement, said once for all its ways -/
def tJoin (t : TS) : TS := fun D σ H => ∃ R : L2.St → Hp → Prop, t { D with nx := R } σ H ∧ ∀ σ' H', R σ' H' → D.nx σ' H'
theorem ps_join {X : Cx} {st : Stmt} {t : TS} (h : PS X st t) : PS X st (tJoin t) := by
  refine ⟨fun pins s σ H D I ⟨R, q, m⟩ => thn (h.run pins s σ H _ I q) fun f s' z => ?_⟩
  cases f with
  | next => obtain ⟨σ', H', J, r⟩ := z; exact ⟨σ', H', J, m _ _ r⟩
  | brk => exact z
  | cont => exact z
  | ret u => exact z

/-! ### repr of data -/
def AG (A : Around) : Prop := A.guards = some []
theorem cr_repr {X : Cx} (hg : AG X.A) (hu : X.A.units + 64 < cLine) : CallR X (.builtin "repr") (fun xs H Q => ∃ a d, xs = [.ref a] ∧ Dp X.K H (.ref a) d ∧ d.showable = true ∧ d.hasDict = false ∧ d.depth + 1 ≤ 64 ∧ d.shown.length ≤ sizeLine ∧ Q (.str d.shown) H) := by
  intro pins s σ H xs us Q I r h
  obtain ⟨a, d, rfl, hd, hs, hn, hdep, hz, q⟩ := h
  obtain ⟨as, rd⟩ := Dp.reads I d (.ref a) (.ref a) hd rfl
  rw [Vals.ref1 r]
  exact repr_of_reads' rd hs (PyData.noDict_hsm hn) hg (by omega) (fun _ _ e => e) (fun h' u tk hk => ⟨.str d.shown, H, I.kept hk, ⟨u, rfl⟩, q⟩) hz

/-! ### a def of the module, told by its name -/
structure Df (P : Program) (w : World) (K : PySem.W.Frag) (mg : Str → Option Value) (base : Heap) (x : Str) (k : Nat) (ps : List Str) (sp : Sp) : Prop where
  ex : ∃ f fd, FnOk P w K mg base CX0 k f fd ps sp ∧ mg x = some (.ref f) ∧ PySem.W.keepIn K (.ref f) = true ∧ Binds K fd ps []
theorem Df.mono {P : Program} {w : World} {K : PySem.W.Frag} {mg : Str → Option Value} {base : Heap} {x : Str} {j k : Nat} {ps : List Str} {sp : Sp} (D : Df P w K mg base x j ps sp) (h : j ≤ k) : Df P w K mg base x k ps sp := by
  obtain ⟨f, fd, F, r⟩ := D.ex
  exact ⟨f, fd, F.mono h, r⟩
theorem Df.imp {P : Program} {w : World} {K : PySem.W.Frag} {mg : Str → Option Value} {base : Heap} {x : Str} {k : Nat} {ps : List Str} {sp sp' : Sp} (D : Df P w K mg base x k ps sp) (h : ∀ vs H Q E, sp' vs H Q E → sp vs H Q E) : Df P w K mg base x k ps sp' := by
  obtain ⟨f, fd, F, r⟩ := D.ex
  exact ⟨f, fd, F.imp h, r⟩
theorem app_nil_call {sp : Sp} {t : TA} {E : XK} : tCall sp [] E t = fun σ H Q => t σ H fun vs H1 => sp vs H1 Q E := by
  funext σ H Q
  show t σ H (fun vs H1 => sp (vs ++ []) H1 Q E) = _
  have e : (fun (vs : List V) (H1 : Hp) => sp (vs ++ []) H1 Q E) = fun vs H1 => sp vs H1 Q E := by funext vs H1; rw [List.append_nil]
  rw [e]
def tDf (sp : Sp) (t : TA) : TE := fun σ H Q => t σ H fun vs H1 => sp vs H1 Q E0
theorem pe_df {X : Cx} {x : Str} {j k : Nat} {ps : List Str} {sp : Sp} {e : Expr} {es : List Expr} {t : TA} {p pos : Pos} (D : Df X.prog X.w X.K X.mg X.base x j ps sp) (hr : Room k X.A) (hk : j ≤ k) (ha : PA X (e :: es) t) (hg : Gl X x := by rfl)
    (hdb : (x == ("__debug__" : Str)) = false := by decide) (he : starEach (e :: es) X.env = (false, eval e X.env) :: starEach es X.env := by rfl) (hpl : (backTo pos (starEach es X.env)).any (·.1) = false := by rfl) :
    PE X (.Call (.Name x p) (e :: es) [] pos) (tDf sp t) := by
  obtain ⟨f, fd, F, hm, kp, b⟩ := D.ex
  have q := pe_call (p := p) (pos := pos) F (hr.mono hk) hg hm kp b .nil (pass0 (X := X)) ha hdb he hpl
  rw [app_nil_call] at q
  exact q

/-! ### calls by keywords alone -/
def permL {α : Type} (π : List Nat) (ws : List α) : List α := π.filterMap fun i => ws[i]?
theorem vals_perm {zs : List V} {ws : List Value} (r : Vals zs ws) : ∀ π : List Nat, Vals (permL π zs) (permL π ws)
  | [] => .nil
  | i :: π => by
    have ih := vals_perm r π
    unfold permL at ih ⊢
    rw [List.filterMap_cons, List.filterMap_cons]
    cases e : zs[i]? with
    | none => rw [r.none_of e]; exact ih
    | some x =>
      obtain ⟨u, hu, ru⟩ := r.get e
      rw [hu]
      exact .cons ru ih
/-- how a call by keywords alone binds: ks the keywords as written, π their places in the parameters' order -/
def BindsK0 (K : PySem.W.Frag) (fd : FuncData) (ps ks : List Str) (π : List Nat) : Prop :=
  ∀ (s : Shared) (ws : List Value), K.In s.heap → ws.length = ks.length → BindsTo s fd ⟨[], ks.zip ws⟩ (ps.zip (permL π ws))
structure DfK (P : Program) (w : World) (K : PySem.W.Frag) (mg : Str → Option Value) (base : Heap) (x : Str) (k : Nat) (ps : List Str) (sp : Sp) (ks : List Str) (π : List Nat) : Prop where
  ex : ∃ f fd, FnOk P w K mg base CX0 k f fd ps sp ∧ mg x = some (.ref f) ∧ PySem.W.keepIn K (.ref f) = true ∧ BindsK0 K fd ps ks π
  ln : ∀ {α : Type} (zs : List α), zs.length = ks.length → (permL π zs).length = ps.length
def tDfK (sp : Sp) (ks : List Str) (π : List Nat) (tk : TA) : TE := fun σ H Q => tk σ H fun zs H1 => zs.length = ks.length ∧ sp (permL π zs) H1 Q E0
theorem run_k0 {X : Cx} {pins : List (Addr × Obj)} {σ : L2.St} {H : Hp} {s : Shared} {Q : VK} {ws : List Value} {zs : List V} {f : Addr} {fd : FuncData} {ps ks : List Str} {π : List Nat} {sp : Sp} {k : Nat} (F : FnOk X.prog X.w X.K X.mg X.base CX0 k f fd ps sp) (hr : Room k X.A)
    (hb : BindsK0 X.K fd ps ks π) (I : Inv X pins σ H s) (rz : Vals zs ws) (hl : zs.length = ks.length) (h : sp (permL π zs) H Q E0) : wpAny (model X.prog X.w) X.A (call (.ref f) [] (ks.zip ws)) (EP X pins σ Q) X.xe s := by
  refine wpAny_call (codeAny_mono (F.run X.A X.stack s H ⟨[], ks.zip ws⟩ (permL π ws) (permL π zs) Q E0 hr I.env0 (hb s ws I.kIn (by rw [← rz.length]; exact hl)) (vals_perm rz π) h) fun r s' hq => ?_)
  cases r with
  | error e => exact False.elim hq
  | ok fl =>
    cases fl with
    | ret u => exact I.after hq
    | next => exact False.elim hq
    | brk => exact False.elim hq
    | cont => exact False.elim hq
theorem pe_dfK {X : Cx} {x : Str} {j k : Nat} {ps ks : List Str} {π : List Nat} {sp : Sp} {kws : List Keyword} {tk : TA} {p pos : Pos} (D : DfK X.prog X.w X.K X.mg X.base x j ps sp ks π) (hr : Room k X.A) (hk : j ≤ k) (hkw : PK X kws tk) (hg : Gl X x := by rfl)
    (hall : (backToKw pos (keywordEach kws X.env)).all (·.1.isSome) = true := by rfl) (hks : (backToKw pos (keywordEach kws X.env)).filterMap (·.1) = ks := by rfl) (hdb : (x == ("__debug__" : Str)) = false := by decide)
    (hpl : ((backTo pos (starEach [] X.env)).any (·.1) || (backToKw pos (keywordEach kws X.env)).any (·.1.isNone)) = false := by rfl) :
    PE X (.Call (.Name x p) [] kws pos) (tDfK sp ks π tk) := by
  obtain ⟨f, fd, F, hm, kp, b⟩ := D.ex
  refine ⟨fun pins s σ H Q I h => wpAny_Call_Name_kw (ld_glob I hg hm ?_ hdb)⟩
  refine PySem.W.callWith_KW0 (h₀ := X.base) I.ok.mod.kin kp hall (thn (hkw.run pos pins s σ H _ I h) fun ws s2 ⟨zs, H2, I2, rz, hl, q2⟩ => ⟨I2.kIn, ?_⟩) hpl
  rw [hks]
  exact run_k0 F (hr.mono hk) b I2 rz hl q2
/-- a local name that holds one of some defs: called by position, by keywords -/
structure Hd (P : Program) (w : World) (K : PySem.W.Frag) (mg : Str → Option Value) (base : Heap) (k : Nat) (f : Addr) (ps : List Str) (sp : Sp) (ks : List Str) (π : List Nat) : Prop where
  ex : ∃ fd, FnOk P w K mg base CX0 k f fd ps sp ∧ PySem.W.keepIn K (.ref f) = true ∧ Binds K fd ps [] ∧ BindsK0 K fd ps ks π
def tHd (i : Nat) (S : Addr → Sp → Prop) (t : TA) : TE := fun σ H Q => ∃ f sp, σ[i]? = some (some (.ref f)) ∧ S f sp ∧ t σ H fun vs H1 => sp vs H1 Q E0
def tHdK (i : Nat) (S : Addr → Sp → Prop) (ks : List Str) (π : List Nat) (t : TA) : TE := fun σ H Q => ∃ f sp, σ[i]? = some (some (.ref f)) ∧ S f sp ∧ t σ H fun zs H1 => zs.length = ks.length ∧ sp (permL π zs) H1 Q E0
theorem pe_hd {X : Cx} {i j k : Nat} {x : Str} {S : Addr → Sp → Prop} {ps ks : List Str} {π : List Nat} {e : Expr} {es : List Expr} {t : TA} {p pos : Pos} (A : ∀ f sp, S f sp → Hd X.prog X.w X.K X.mg X.base j f ps sp ks π) (hr : Room k X.A) (hk : j ≤ k) (ha : PA X (e :: es) t)
    (hN : X.N[i]? = some x := by rfl) (hv : Vis X.env.scope x := by first | exact Or.inl rfl | exact Or.inr (Or.inl rfl) | exact Or.inr (Or.inr rfl)) (hdb : (x == ("__debug__" : Str)) = false := by decide) (hcd : (x == ("__classdict__" : Str)) = false := by decide)
    (he : starEach (e :: es) X.env = (false, eval e X.env) :: starEach es X.env := by rfl) (hpl : (backTo pos (starEach es X.env)).any (·.1) = false := by rfl) : PE X (.Call (.Name x p) (e :: es) [] pos) (tHd i S t) := by
  refine ⟨fun pins s σ H Q I ⟨f, sp, hs, hS, ht⟩ => ?_⟩
  obtain ⟨fd, F, kp, b, _⟩ := (A f sp hS).ex
  have q := (pe_callL (p := p) (pos := pos) F (hr.mono hk) hN hv kp b .nil (pass0 (X := X)) ha hdb hcd he hpl).run pins s σ H Q I
  refine q ⟨hs, ?_⟩
  have e0 : (fun (vs : List V) (H1 : Hp) => sp (vs ++ []) H1 Q E0) = fun vs H1 => sp vs H1 Q E0 := by funext vs H1; rw [List.append_nil]
  rw [e0]; exact ht
theorem pe_hdK {X : Cx} {i j k : Nat} {x : Str} {S : Addr → Sp → Prop} {ps ks : List Str} {π : List Nat} {kws : List Keyword} {tk : TA} {p pos : Pos} (A : ∀ f sp, S f sp → Hd X.prog X.w X.K X.mg X.base j f ps sp ks π) (hr : Room k X.A) (hk : j ≤ k) (hkw : PK X kws tk)
    (hN : X.N[i]? = some x := by rfl) (hv : Vis X.env.scope x := by first | exact Or.inl rfl | exact Or.inr (Or.inl rfl) | exact Or.inr (Or.inr rfl))
    (hall : (backToKw pos (keywordEach kws X.env)).all (·.1.isSome) = true := by rfl) (hks : (backToKw pos (keywordEach kws X.env)).filterMap (·.1) = ks := by rfl) (hdb : (x == ("__debug__" : Str)) = false := by decide) (hcd : (x == ("__classdict__" : Str)) = false := by decide)
    (hpl : ((backTo pos (starEach [] X.env)).any (·.1) || (backToKw pos (keywordEach kws X.env)).any (·.1.isNone)) = false := by rfl) :
    PE X (.Call (.Name x p) [] kws pos) (tHdK i S ks π tk) := by
  refine ⟨fun pins s σ H Q I ⟨f, sp, hs, hS, ht⟩ => ?_⟩
  obtain ⟨fd, F, kp, _, b⟩ := (A f sp hS).ex
  refine wpAny_Call_Name_kw (thn ((pe_var (pos := p) hN hv hdb hcd).run pins s σ H (fun v H1 => v = .ref f ∧ H1 = H) I ⟨.ref f, hs, rfl, rfl⟩) fun u s1 ⟨v, H1, I1, r1, q1⟩ => ?_)
  obtain ⟨rfl, rfl⟩ := q1
  cases r1
  refine PySem.W.callWith_KW0 (h₀ := X.base) I.ok.mod.kin kp hall (thn (hkw.run pos pins s1 σ _ _ I1 ht) fun ws s2 ⟨zs, H2, I2, rz, hl, q2⟩ => ⟨I2.kIn, ?_⟩) hpl
  rw [hks]
  exact run_k0 F (hr.mono hk) b I2 rz hl q2
end RS

/-! ExcV: exceptions of own and built-in classes as values: isinstance, fields, ValueError(..). -/
namespace RS
open PySem PySem.Spec PyProof.Rows L2

/-- what an own exception class must say, that isinstance and fields of its instances go -/
structure ExK (K : PySem.W.Frag) (C : Addr) : Prop where
  cl : (PySem.W.clsIn K C).isSome = true
  ga : PySem.W.findIn K (.ref C) "__getattribute__" = some (some (.builtin "BaseException.__getattribute__"))
  gg : PySem.W.findIn K (.ref C) "__getattr__" = some none
  sub : PySem.W.subIn K (.ref C) (.type "BaseException") = some true
  hd : PySem.W.hasDictIn K C = true
  ca : PySem.W.findIn K (.ref C) "__class__" = some (some (.builtin "object.__class__"))
  cg : PySem.W.specialIn K (.builtin "object.__class__") "__get__" = some (some (.builtin "getset_descriptor.__get__"))
  ct : PySem.W.takesIn K (.builtin "object.__class__") = some true
  ob : PySem.W.mroIn K C (.type "object") = some true
/-- at a: an exception value of the class t -/
inductive ExAt (K : PySem.W.Frag) (H : Hp) (a : Addr) : Value → Prop where
  | bare {C : Addr} (k : ExK K C) (h : H a = some (ExO (.ref C) a)) : ExAt K H a (.ref C)
  | dict {C d : Addr} {fs : List (Str × V)} (k : ExK K C) (h : H a = some (exo a C (some d))) (hd : H d = some (exd d fs)) : ExAt K H a (.ref C)
  | ve (h : H a = some (ExO (.type "ValueError") a)) : ExAt K H a (.type "ValueError")
section
variable {X : Cx} {pins : List (Addr × Obj)} {σ : L2.St} {H : Hp} {s : Shared}
theorem exO_at {a : Addr} {cls : Value} (I : Inv X pins σ H s) (h : H a = some (ExO cls a)) : ∃ oe vs, s.heap.get? a = some oe ∧ Zc cls none oe ∧ oe.data = .fields vs := by
  obtain ⟨⟨oe, vs, h1, h2, h3, _⟩, _, _⟩ := I.hok a _ h
  exact ⟨oe, vs, h1, h2, h3⟩
theorem inst_dict {a C d : Addr} {fs : List (Str × V)} (I : Inv X pins σ H s) (h : H a = some (exo a C (some d))) (hd : H d = some (exd d fs)) :
    ∃ (ox od : Obj) (mA : Str → Option Value), PySem.W.InstAt s.heap a ox C (some od) ∧ (∀ n, PySem.W.lookIn n od = some (mA n)) ∧ ∀ f, RelO (fs.lookup f) (mA f) := by
  obtain ⟨t1, ha⟩ := exo_at I.hok h
  obtain ⟨mA, hn, hr⟩ := exd_at I.hok hd
  obtain ⟨od, ho, hl⟩ := lookIn_ns hn
  exact ⟨_, od, mA, ⟨ha, rfl, rfl, ho⟩, hl, hr⟩
theorem kit_ex {a : Addr} {t : Value} (I : Inv X pins σ H s) (e : ExAt X.K H a t) : ∃ P : Heap → Prop, PySem.W.KitX X.K (.ref a) t P ∧ P s.heap := by
  cases e with
  | bare k h =>
    obtain ⟨oe, vs, h1, h2, h3⟩ := exO_at I h
    exact ⟨_, PySem.W.kitx_exc (od := none) k.cl k.ga k.gg k.sub k.ca k.cg k.ct k.ob, ⟨h1, h2.1, by unfold PySem.W.notCls; rw [h3] <;> rfl, by rw [h2.2]; trivial⟩⟩
  | dict k h hd =>
    obtain ⟨ox, od, mA, J, _⟩ := inst_dict I h hd
    exact ⟨_, PySem.W.kitx_exc (od := some od) k.cl k.ga k.gg k.sub k.ca k.cg k.ct k.ob, J⟩
  | ve h =>
    obtain ⟨oe, vs, h1, h2, h3⟩ := exO_at I h
    exact ⟨_, PySem.W.kitx_bexc PySem.F.excAttr_ValueError PySem.F.lkClass_ValueError PySem.F.soClass_ValueError (by decide +kernel), ⟨oe, h1, h2.1⟩⟩
end
/-- isinstance(e, c), e an exception value -/
structure rIsV (K : PySem.W.Frag) (xs : List V) (H : Hp) (Q : VK) : Prop where
  ex : ∃ (a : Addr) (c : V) (t u : Value) (b : Bool), xs = [.ref a, c] ∧ ClsV c u ∧ ExAt K H a t ∧ PySem.W.kitOne K t u = some b ∧ Q (.bl b) H
theorem call_isV {X : Cx} : CallR X (.builtin "isinstance") (rIsV X.K) := by
  intro pins s σ H xs us Q I r h
  obtain ⟨a, c, t, u, b, rfl, k, e, hk, q⟩ := h.ex
  obtain ⟨u1, u2, rfl, r1, r2⟩ := vals2 r
  obtain rfl := k.eq r2
  cases r1
  obtain ⟨P, Z, p⟩ := kit_ex I e
  exact PySem.W.kia_one Z I.kIn p hk (fun z => nomatch z) fun tk => ⟨.bl b, H, I.tok tk, rfl, q⟩
/-- e.f, e an exception value with fields -/
structure rExF (K : PySem.W.Frag) (n : Str) (x : V) (H : Hp) (Q : VK) : Prop where
  ex : ∃ (a C d : Addr) (fs : List (Str × V)) (v : V), x = .ref a ∧ ExK K C ∧ PySem.W.findIn K (.ref C) n = some none ∧ H a = some (exo a C (some d)) ∧ H d = some (exd d fs) ∧ fs.lookup n = some v ∧ Q v H
def tExF (K : PySem.W.Frag) (n : Str) (te : TE) : TE := fun σ H Q => te σ H fun x H1 => rExF K n x H1 Q
theorem pe_exF {X : Cx} {e : Expr} {te : TE} {pos : Pos} {n : Str} (he : PE X e te) (hb : attributeBase e n X.env (eval e X.env) = eval e X.env := by rfl) : PE X (.Attribute e n pos) (tExF X.K n te) := by
  refine ⟨fun pins s σ H Q I h => attr_of hb (thn (he.run pins s σ H _ I h) fun u s1 ⟨x, H1, I1, rx, q⟩ => ?_)⟩
  obtain ⟨a, C, d, fs, v, rfl, k, hno, h1, h2, hl, q⟩ := q.ex
  cases rx
  obtain ⟨ox, od, mA, J, lk, rel⟩ := inst_dict I1 h1 h2
  obtain ⟨u, hu, ru⟩ := RelO.some_of (v := v) (o := mA n) (by rw [← hl]; exact rel n)
  exact HandSPX.exc_get I1.kIn J k.ga k.gg k.sub (PySem.W.findObj_own k.hd hno rfl (by rw [lk, hu])) (handed_of ru) ⟨v, H1, I1.tok _, ru, q⟩
end RS

/-! ExcS: super().__init__(text) in the __init__ of an own exception class over own classes over ValueError. -/
namespace RS
open PySem PySem.Spec PyProof.Rows L2 NdefX

/-- what the written part says, so that super() in C's own __init__ finds ValueError's -/
structure SupOk (P : Program) (K : PySem.W.Frag) (mg : Str → Option Value) (C cc cda : Addr) : Prop where
  code : ∃ (ccl : Value) (cdd : Option Addr) (vs : Array Value) (ccs : Array (Option Value)) (file : Str) (tf : Tok), K.lookup cda = some ⟨ccl, cdd, .fields vs, ccs⟩ ∧ vs[2]? = some (.str file tf) ∧ ((P.main.file : Str) == file) = true
  cell : ∃ (cl : Value) (cld : Option Addr) (csl : Array (Option Value)), K.lookup cc = some ⟨cl, cld, .cell (some (.ref C)), csl⟩
  cls : (PySem.W.clsIn K C).isSome = true
  self : PySem.W.mroIn K C (.ref C) = some true
  sup : mg "super" = none
  top : (P.main.scope.names.lookup ("super" : Str)).isSome = false
  opq : PySem.W.nsIn K cStatics "thirdparty.any" = some none
  ini : PySem.W.ks_superIn K C C "__init__" = some (some (.builtin "ValueError.__init__"))
  sub : PySem.W.subIn K (.ref C) (.type "ValueError") = some true
  oex : OexC K C
section
variable {X : Cx} {pins : List (Addr × Obj)} {σ : L2.St} {H : Hp} {s : Shared}
/-- the method-wrapper of ValueError.__init__ at u, called for the exception at a -/
theorem call_mw {a C u : Addr} {us : List Value} {Q : Value → Shared → Prop} (T : OexC X.K C) (I : Inv X pins σ H s) (e : H a = some (exo a C none)) (hu : s.heap.get? u = some (PySem.W.kxs_mw "ValueError.__init__" a)) (hl : us.length ≤ sizeLine) (h : ∀ s', Inv X pins σ H s' → Q .none s') :
    wpAny (model X.prog X.w) X.A (call (.ref u) us) Q X.xe s := by
  obtain ⟨nm, q, N, bs, bm, sn, sub, ab, col, dd, k0, k1, k2, k3, k5, hC, hbm⟩ := T.cls
  obtain ⟨t1, ho⟩ := exo_at I.hok e
  have hCs := I.kIn _ _ hC
  obtain ⟨hp, g, d, t, os⟩ := s
  refine wpAny_call (codeAny_of_tree ?_)
  show wpAny _ X.A.in1 (callAny (.ref u) ⟨us, []⟩) _ _ _
  simp only [callAny]
  refine wpAny_bind (wpAny_load hu ?_)
  simp only [PySem.W.kxs_mw, show (Value.type "method-wrapper" == Value.type "method" || Value.type "method-wrapper" == Value.type "builtin_function_or_method" || Value.type "method-wrapper" == Value.type "method-wrapper") = true by decide, if_true]
  refine PySem.W.KFB.if_so (by decide) ?_
  refine wpAny_bind (PySem.W.check_bound_init F.excBase_ValueError.toExcCallFacts hCs ho rfl ?_)
  refine wpAny_bind (wpAny_pure (wpAny_pure ?_))
  refine ⟨plainId_quiet F.excBase_ValueError.init.plain _, codeAny_builtin F.excBase_ValueError.initEntry ?_⟩
  refine PySem.W.exc_init_tree (cls := .ref C) (t0 := t1) (dv := none) (c2 := .none) (c3 := .none) (b4 := .bool false) ho hl fun h' k hx _ => ?_
  have J := I.write (t' := t) (x := a) (e := a) (o := exo a C none) (by rw [e]; exact True.intro) (.inl rfl) k ⟨_, hx⟩ (exo_ok hx)
  have eu : upd H a (exo a C none) = H := by
    funext b
    by_cases hb : b = a
    · rw [hb, upd_same, e]
    · rw [upd_ne hb]
  rw [eu] at J
  exact h _ J
/-- super().__init__(text), in the body of such an __init__ -/
theorem wp_super {C cc cda f a : Addr} {body : List Stmt} {oc : Value} {od : Option Addr} {fd : FuncData} {osl : Array (Option Value)} {ar : Arg} {p0 p1 p2 p3 p4 : Pos} {msg : Str} {j : Nat} {pl : Sem Bool} {Q : Value → Shared → Prop} (S : SupOk X.prog X.K X.mg C cc cda)
    (hfn : X.K.lookup f = some ⟨oc, od, .func fd, osl⟩) (hp : (fd.params.posonlyargs ++ fd.params.args).head? = some ar) (har : ar.arg = "self") (e1 : X.env.func = some f) (e2 : X.env.code = .ref cda) (e3 : X.env.cells.lookup ("__class__" : Str) = some cc)
    (hks : X.env.kindOf "super" = some .globalImplicit) (hkc : X.env.kindOf "__class__" = some .free) (hkl : X.env.kindOf "self" = some .local) (N0 : X.N[0]? = some ("self" : Str)) (I : Inv X pins σ H s) (s0 : σ[0]? = some (some (.ref a))) (ha : H a = some (exo a C none))
    (hq : ∀ s', Inv X pins σ H s' → Q .none s')
    (he : eval (.Call (.Attribute (.Call (.Name "super" p0) [] [] p1) "__init__" p2) [.Constant (.str msg) j p3] [] p4) X.env = (do
      let ov ← attributeBase (.Call (.Name "super" p0) [] [] p1) "__init__" X.env (eval (.Call (.Name "super" p0) [] [] p1) X.env)
      standAt p2.atName
      let (f, first) ← holding [ov] (getMethod ov "__init__" pl)
      callWith p4 f first (backTo p4 (starEach [.Constant (.str msg) j p3] X.env)) []) := by rfl) :
    _root_.PySem.wpAt (model X.prog X.w) X.A (.func body X.env) (eval (.Call (.Attribute (.Call (.Name "super" p0) [] [] p1) "__init__" p2) [.Constant (.str msg) j p3] [] p4) X.env) Q X.xe s := by
  refine PySem.ks_wpAt_MethodCall ?_ he
  obtain ⟨ccl, cdd, vs, ccs, file, tf, c1, c2, c3⟩ := S.code
  obtain ⟨cl, cld, csl, k1⟩ := S.cell
  obtain ⟨cd, hcd⟩ := Option.isSome_iff_exists.mp S.cls
  have KX := I.kIn
  have hk : X.env.scope.kind = .function := I.ok.kind
  obtain ⟨oD, hD1, hD2⟩ : ∃ oD, s.heap.get? C = some oD ∧ oD.data = .cls cd := by
    unfold PySem.W.clsIn at hcd
    split at hcd
    · rename_i q
      cases hcd
      exact ⟨_, KX _ _ q, rfl⟩
    · cases hcd
  obtain ⟨mb, nb, hb⟩ := I.mod.blt
  obtain ⟨m, hn, hl⟩ := I.loc
  obtain ⟨u, ru, lk⟩ := hl 0 "self" (.ref a) N0 s0 (.inl hkl)
  obtain rfl : u = Value.ref a := ru
  have hm : m "self" = some (.ref a) := by
    rcases lk with ⟨_, z⟩ | ⟨z, _⟩
    · exact z
    · rcases z with z | z <;> (rw [hkl] at z; cases z)
  have glob : s.heap.Ns X.env.globals X.mg := by rw [I.ok.glob]; exact I.mod.glob.keeps I.bk
  have blts : s.heap.Ns X.env.builtins mb := by rw [I.ok.blt]; exact nb.keeps I.bk
  obtain ⟨t1, hx⟩ := exo_at I.hok ha
  refine PySem.ks_wpAt_super_base hks hkc (by decide) e1 (KX _ _ hfn) rfl hp e2 (KX _ _ c1) rfl c2 c3 S.top ?_
  refine PySem.W.ks_loadName_global hk hks (PySem.Calls.loadGlobal_builtin glob S.sup blts ((hb _ (by decide)).trans (by decide +kernel : bootBuiltins "super" = some (.type "super"))) ⟨rfl, ?_⟩)
  refine wpAny_loadName_free hk hkc e3 ⟨_, KX _ _ k1, rfl⟩ ?_
  rw [har]
  refine wpAny_loadName_local hk hkl hn hm ?_
  refine PySem.ks_wpAny_isType_cls hD1 hD2 ⟨rfl, ?_⟩
  refine PySem.ks_wpAny_call_super hD1 hD2 hx rfl (fun c z => by cases z) (PySem.W.looks_mroIn KX S.self) fun h1 so k1' => ?_
  have I1 := I.kept (t' := s.toks) k1'
  have hx1 := k1' _ _ hx
  have J1 : PySem.W.InstAt h1 a _ C none := ⟨hx1, rfl, rfl, trivial⟩
  have ini := S.ini
  unfold PySem.W.ks_superIn at ini
  rw [hcd] at ini
  refine PySem.W.kxs_getMethod PySem.W.kxs_ValueError so (PySem.W.looks_opaque I1.kIn S.opq) (l₀ := cd.mro) (fun A Q E s k q => wpAny_bind ((PySem.W.looks_clsIn I1.kIn hcd) A _ E s k (wpAny_pure q))) rfl I1.kIn ini (J1.type.andThen (PySem.W.looks_subIn I1.kIn S.sub)) (PySem.W.ks_ne I1.kIn J1 hcd) (by decide) ?_
  have k2 : ∀ b o, h1.get? b = some o → (h1.push (PySem.W.kxs_mw "ValueError.__init__" a)).get? b = some o := fun b o e => Heap.get?_push_of_some _ e
  have I2 := I1.kept (t' := s.toks + 1 + 1) k2
  have hmw : (h1.push (PySem.W.kxs_mw "ValueError.__init__" a)).get? h1.objs.size = some (PySem.W.kxs_mw "ValueError.__init__" a) := Heap.get?_push_at rfl rfl
  refine PySem.W.kxs_callWith (i := "ValueError.__init__") (x := a) rfl (PySem.Calls.evalArgs_plain (PySem.Calls.spliced_cons ?_))
  show wpAny _ _ (eval (.Constant (.str msg) j p3) X.env) _ _ _
  refine PySem.Calls.Constant_str (PySem.Calls.spliced_nil ⟨hmw, ?_⟩)
  exact call_mw S.oex I2 ha hmw (by show 1 ≤ sizeLine; rw [sizeLine_eq]; omega) hq
end
/-- the __init__ of an own exception class as it stands behind the top -/
structure IniAt (P : Program) (K : PySem.W.Frag) (mg : Str → Option Value) (C f cc cda : Addr) (qual : Str) (st : Stmt) (fd : FuncData) : Prop where
  ex : ∃ (oc : Value) (od : Option Addr) (kV doc pm ct : Value) (an : Option Addr) (osl : Array (Option Value)), fd = PySem.W.fnX "__init__" qual (C8.fnArgs st) (C8.fnBody st) (C8.fnScope st) [("__class__", cc)] .none kV doc pm an (.ref cda) ct ∧ K.lookup f = some ⟨oc, od, .func fd, osl⟩
  cd : PySem.W.codeIn K (.ref cda) qual = true
  sup : SupOk P K mg C cc cda
section
variable {P : Program} {w : World} {K : PySem.W.Frag} {mg : Str → Option Value} {base : Heap}
theorem ok_initS {C f cc cda : Addr} {qual : Str} {st : Stmt} {fd : FuncData} {N ps : List Str} {rest : List Stmt} {p0 p1 p2 p3 p4 p5 : Pos} {msg : Str} {j k : Nat} {ar : Arg} {sp : Sp} (I0 : IniAt P K mg C f cc cda qual st fd) (S : NScope N ps ["__class__"] (C8.fnScope st))
    (hbody : C8.fnBody st = .Expr (.Call (.Attribute (.Call (.Name "super" p0) [] [] p1) "__init__" p2) [.Constant (.str msg) j p3] [] p4) p5 :: rest) (hks : (C8.fnScope st).names.lookup ("super" : Str) = some .globalImplicit) (har : ((C8.fnArgs st).posonlyargs ++ (C8.fnArgs st).args).head? = some ar) (hself : ar.arg = "self")
    {pl : Env → Sem Bool} (he : ∀ env : Env, eval (.Call (.Attribute (.Call (.Name "super" p0) [] [] p1) "__init__" p2) [.Constant (.str msg) j p3] [] p4) env = (do
      let ov ← attributeBase (.Call (.Name "super" p0) [] [] p1) "__init__" env (eval (.Call (.Name "super" p0) [] [] p1) env)
      standAt p2.atName
      let (f, first) ← holding [ov] (getMethod ov "__init__" (pl env))
      callWith p4 f first (backTo p4 (starEach [.Constant (.str msg) j p3] env)) []))
    (hsw : ∀ env : Env, swapsWith (.Call (.Attribute (.Call (.Name "super" p0) [] [] p1) "__init__" p2) [.Constant (.str msg) j p3] [] p4) none p5.line env = pure false) (N0 : N[0]? = some ("self" : Str)) (P0 : ("self" : Str) ∈ ps) (len : ∀ vs H Q E, sp vs H Q E → vs.length = ps.length)
    (hb : ∀ (F : NF) (A : Around) (outer : List Env) (s : Shared) (H : Hp) (vs : List V) (Q : VK) (E : XK), F = ⟨"__init__", qual, C8.fnArgs st, C8.fnBody st, C8.fnScope st, [("__class__", cc)], cda⟩ → Room k (A.deeper (envF F f s.heap.objs.size)) → sp vs H Q E →
      ∃ a, vs[0]? = some (.ref a) ∧ H a = some (exo a C none) ∧ ∃ t, PSs (ncx CX0 P w K mg base N F f A outer s H E) rest t ∧ t { nx := fun _ H' => Q .non H', rt := Q } (startF N vs [some (.ref C)]) H) :
    FnOk P w K mg base CX0 (k + 1) f fd ps sp := by
  obtain ⟨oc, od, kV, doc, pm, ct, an, osl, rfl, lk⟩ := I0.ex
  refine ⟨len, fun A outer s H args us vs Q E hr e0 bind r hsp => ?_⟩
  have stays : ∀ b o, base.get? b = some o → s.heap.get? b = some o := fun b o e => (e0.bs b o e).1
  have KX : K.In s.heap := e0.mod.kin.keeps stays
  have hl := len _ _ _ _ hsp
  obtain ⟨cl, cld, csl, k1⟩ := I0.sup.cell
  have ccn : H cc = none := (e0.bs _ _ (e0.mod.kin _ _ k1)).2
  let F : NF := ⟨"__init__", qual, C8.fnArgs st, C8.fnBody st, C8.fnScope st, [("__class__", cc)], cda⟩
  have one : ∀ y c, F.cl.lookup y = some c → y = "__class__" ∧ c = cc := fun y c e => by
    have e : ([("__class__", cc)] : List (Str × Addr)).lookup y = some c := e
    rw [List.lookup_cons] at e
    split at e
    · rename_i h; exact ⟨by simpa using h, (Option.some.inj e).symm⟩
    · cases e
  have CA : CellsAt F.cl ["__class__"] [some (.ref C)] s.heap H := by
    refine ⟨rfl, fun y c e => ?_, fun x y c h1 h2 => (one x c h1).1.trans (one y c h2).1.symm, fun i y e => ?_⟩
    · obtain ⟨_, rfl⟩ := one y c e
      exact ⟨ccn, _, _, KX _ _ k1, rfl⟩
    · match i, e with
      | 0, e =>
        cases e
        refine ⟨cc, by show ([("__class__", cc)] : List (Str × Addr)).lookup ("__class__" : Str) = some cc; simp [List.lookup_cons], fun v ev => ?_⟩
        cases ev
        exact ⟨.ref C, rfl, _, KX _ _ k1, rfl⟩
      | i + 1, e => simp at e
  refine codeAny_call_function hr.depth (KX _ _ lk) rfl S.co S.gen rfl (PySem.W.codeRec_of KX I0.cd) (bind _ _ _ _ ?_)
  refine wpAny_newFunctionEnv S.nocell (fun ⟨n, _⟩ hy => S.par n (List.of_mem_zip hy).1) (fun h₁ hns hsb => ⟨(e0.mod.nolimit.keeps stays).fresh _ hsb, ?_⟩) S.kind
  show codeAny _ _ (.func F.body (envF F f s.heap.objs.size)) _ _
  have kp : ∀ b o, s.heap.get? b = some o → h₁.get? b = some o := fun b o e => hsb.extBut b o (Nat.ne_of_lt (Heap.lt_size e)) (Heap.get?_push_of_some _ e)
  obtain ⟨a, v0, ha, t, ht, hq⟩ := hb F A outer s H vs Q E rfl (hr.deeper _) hsp
  have I : Inv (ncx CX0 P w K mg base N F f A outer s H E) [] (startF N vs [some (.ref C)]) H { s with heap := h₁, toks := s.toks + (ps.zip us).length } := inv_startN S hr.hd e0 hl r CA hns kp
  have s0 : (startF N vs [some (.ref C)])[0]? = some (some (.ref a)) := by
    match vs, v0 with
    | v :: vs, e => cases e; rfl
  refine PySem.ks_codeAny_funcAt ?_
  rw [show execs F.body (envF F f s.heap.objs.size) = execs (.Expr (.Call (.Attribute (.Call (.Name "super" p0) [] [] p1) "__init__" p2) [.Constant (.str msg) j p3] [] p4) p5 :: rest) (envF F f s.heap.objs.size) from congrArg (fun b => execs b _) hbody]
  refine PySem.ks_wpAt_execs_cons (PySem.ks_wpAt_Expr_any (wp_super (X := ncx CX0 P w K mg base N F f A outer s H E) (body := F.body) I0.sup lk har hself rfl rfl (by show ([("__class__", cc)] : List (Str × Addr)).lookup ("__class__" : Str) = some cc; simp [List.lookup_cons]) hks (S.frk _ (by simp)) (S.par _ P0) N0 I s0 ha (fun s' J => ?_) (he _)) (by unfold interactive; show _ = false; rw [show (envF F f s.heap.objs.size).scope.kind = .function from S.kind]; rfl) (hsw _))
  refine wpAt_of_wpAny (wpAny_mono (ht.run [] s' _ H _ J hq) (fun fl s2 hs => ?_) fun e s2 hs => hs)
  have fin : ∀ {σ' : L2.St} {H' : Hp} {v : V} {u : Value}, Inv (ncx CX0 P w K mg base N F f A outer s H E) [] σ' H' s2 → L2.RelV v u → Q v H' → CE outer P w H s Q u s2 :=
    fun {σ' H' v u} J rv q => ⟨v, H', J.os, J.bare, J.base, J.hok, rv, q⟩
  cases fl with
  | ret u =>
    obtain ⟨v, σ', H', J, rv, q⟩ := hs
    exact fin J rv q
  | next =>
    obtain ⟨σ', H', J, q⟩ := hs
    exact fin (v := V.non) (u := Value.none) J rfl q
  | brk => exact (hs.elim fun _ z => z.elim fun _ z => z.2.elim)
  | cont => exact (hs.elim fun _ z => z.elim fun _ z => z.2.elim)
end
end RS

/-! ExcKw: an own exception class called with keywords too. -/
namespace RS
open PySem PySem.Spec
section
variable {M : Model} {A : Around} {E : Value → Shared → Prop} {h : Heap} {g : Array GenState} {d : Drawn} {t : Nat} {os : OsState}
variable {nm q : Str} {C N : Addr} {bs bm bmB : List Value} {hdct : Bool} {sn : List Str} {sub : List Value} {ab : Bool} {col : Option Bool} {dd : Option Addr} {k0 k1 k2 k3 k5 : Option Value} {B newId initId : String}
theorem checkKw (F : ExcBaseFacts B newId initId bmB) (hT : ∀ X : String, bm.contains (.type X) = bmB.contains (.type X)) {rest : List Value} {kw : List (Str × Value)} {Q : Unit → Shared → Prop}
    (hC : h.get? C = some (excClassObj nm q C N bs bm hdct sn sub ab col dd k0 k1 k2 k3 k5 newId)) (hq : Q () ⟨h, g, d, t, os⟩) : wpAny M A (checkBuiltinCall newId ⟨.ref C :: rest, kw⟩) Q E ⟨h, g, d, t, os⟩ := by
  have inB : (Value.ref C :: bm).contains (.type B) = true := by rw [List.contains_cons, hT, F.hasB, Bool.or_true]
  have st := F.noStar
  unfold checkBuiltinCall
  simp only [F.newKind, F.newSplit, F.newRow]
  repeat (first | refine wpAny_loadPart_at hC ?_ | (refine wpAny_isSubtype_exc hC ?_; rw [inB]) | refine wpAny_staticBase_exc hC ?_ | refine wpAny_madeBy_exc hC ?_ | simp only [bne_self_eq_false, Bool.false_eq_true, if_false] | wp_step)
  exact hq
end
section
variable {prog : Program} {w : World} {A : Around} {E : Value → Shared → Prop} {R : Result → Shared → Prop} {h : Heap} {g : Array GenState} {d : Drawn} {t : Nat} {os : OsState}
variable {nm q : Str} {C N : Addr} {bs bm bmB : List Value} {hdct : Bool} {sn : List Str} {sub : List Value} {ab : Bool} {col : Option Bool} {dd : Option Addr} {k0 k1 k2 k3 k5 : Option Value} {B newId initId : String}
theorem newKw (F : ExcBaseFacts B newId initId bmB) (hT : ∀ X : String, bm.contains (.type X) = bmB.contains (.type X)) {rest : List Value} {kw : List (Str × Value)} (hC : h.get? C = some (excClassObj nm q C N bs bm hdct sn sub ab col dd k0 k1 k2 k3 k5 newId))
    (hq : R (.ok (.ret (.ref (h.objs.size + 1)))) ⟨(h.push (PySem.W.kdv_tup rest)).push (PySem.HandSPX.excO C h.objs.size), g, d, t, os⟩) (hrest : rest.length ≤ sizeLine) : codeAny (model prog w) A (.builtin newId ⟨.ref C :: rest, kw⟩) R ⟨h, g, d, t, os⟩ := by
  have en := F.ends
  have inB : (Value.ref C :: bm).contains (.type B) = true := by rw [List.contains_cons, hT, F.hasB, Bool.or_true]
  have noA : (Value.ref C :: bm).contains (.type "AttributeError") = false := by rw [List.contains_cons, hT, F.noAttr]; rfl
  have noN : (Value.ref C :: bm).contains (.type "NameError") = false := by rw [List.contains_cons, hT, F.noName]; rfl
  refine codeAny_builtinAt F.entry (show wpAt _ _ _ (Builtin.«BaseException.__new__» _) _ _ _ from ?_)
  unfold Builtin.«BaseException.__new__»
  refine wpAt_bind (show wpAt _ _ _ (stack >>= _) _ _ _ from wpAt_bind (wpAt_stack fun p below => wpAt_of_wpAny ?_))
  wp_walk
  refine wpAt_of_wpAny ?_
  rw [F.owner]
  repeat (first | with_reducible refine wpAny_madeHere_exc F.canon hC ?_ | with_reducible refine wpAny_loadPart_at hC ?_ | (with_reducible refine wpAny_isSubtype_exc hC ?_; first | rw [inB] | rw [noA] | rw [noN]) | wp_step)
  show R _ _
  rw [Heap.size_push]
  exact hq
theorem typeCallKw (F : ExcBaseFacts B newId initId bmB) (hT : ∀ X : String, bm.contains (.type X) = bmB.contains (.type X)) {rest : List Value} {kw : List (Str × Value)} {fI : Addr} {Q : Fin → Shared → Prop} (hC : h.get? C = some (excClassObj nm q C N bs bm hdct sn sub ab col dd k0 k1 k2 k3 k5 newId))
    (ini : PySem.W.Looks (model prog w) h (typeLookup (.ref C) "__init__") (some (.ref fI))) (bnd : ∀ self, PySem.W.Looks (model prog w) h (bindSpecial (.ref fI) self) (.ref fI, [self])) (hrest : rest.length ≤ sizeLine)
    (hq : codeAny (model prog w) A (.call (.ref fI) ⟨.ref (h.objs.size + 1) :: rest, kw⟩) (fun r s' => match r with | .ok (.ret v) => v = .none ∧ Q (.done (.ret (.ref (h.objs.size + 1)))) s' | .ok _ => False | .error e => E e s') ⟨(h.push (PySem.W.kdv_tup rest)).push (PySem.HandSPX.excO C h.objs.size), g, d, t, os⟩) :
    wpAny (model prog w) A (Builtin.«type.__call__» ⟨.ref C :: rest, kw⟩) Q E ⟨h, g, d, t, os⟩ := by
  repeat (first | with_reducible refine wpAny_loadPart_at hC ?_ | with_reducible refine wpAny_madeBy_exc hC ?_ | wp_step)
  refine codeAny_call_builtin_code (Code.quiet_builtin _ F.quiet) (checkKw F hT hC (newKw F hT hC (show wpAny _ _ _ _ _ _ from ?_) hrest))
  have up : ∀ b o, h.get? b = some o → ((h.push (PySem.W.kdv_tup rest)).push (PySem.HandSPX.excO C h.objs.size)).get? b = some o := fun b o e => Heap.get?_push_of_some _ (Heap.get?_push_of_some _ e)
  have C1 := up _ _ hC
  have e1 : ((h.push (PySem.W.kdv_tup rest)).push (PySem.HandSPX.excO C h.objs.size)).get? (h.objs.size + 1) = some (PySem.HandSPX.excO C h.objs.size) := by heap_get
  have inC : (Value.ref C :: bm).contains (.ref C) = true := by simp
  unfold isInstance
  repeat (first | with_reducible refine wpAny_loadPart_at e1 ?_ | (with_reducible refine wpAny_isSubtype_exc C1 ?_; rw [inC]) | wp_step)
  show wpAny _ _ (typeLookup (.ref C) _) _ _ _
  refine (ini.keeps up).at (wpAny_holding (wpAny_bind (((bnd (.ref (h.objs.size + 1))).keeps up).at (wpAny_bind (wpAny_call (codeAny_mono hq fun r s' z => ?_))))))
  rcases r with e | (v | _ | _ | _) <;> first | exact z | exact z.elim | skip
  obtain ⟨rfl, z⟩ := z
  first | exact wpAny_pure (wpAny_pure z) | (wp_walk; exact z)
theorem callKw (F : ExcBaseFacts B newId initId bmB) (hT : ∀ X : String, bm.contains (.type X) = bmB.contains (.type X)) {rest : List Value} {kw : List (Str × Value)} {fI : Addr} (hC : h.get? C = some (excClassObj nm q C N bs bm hdct sn sub ab col dd k0 k1 k2 k3 k5 newId))
    (ini : PySem.W.Looks (model prog w) h (typeLookup (.ref C) "__init__") (some (.ref fI))) (bnd : ∀ self, PySem.W.Looks (model prog w) h (bindSpecial (.ref fI) self) (.ref fI, [self])) (hrest : rest.length ≤ sizeLine)
    (hq : codeAny (model prog w) (A.under (.builtin "type.__call__" ⟨.ref C :: rest, kw⟩)) (.call (.ref fI) ⟨.ref (h.objs.size + 1) :: rest, kw⟩) (PySem.W.InitBack (h.objs.size + 1) R) ⟨(h.push (PySem.W.kdv_tup rest)).push (PySem.HandSPX.excO C h.objs.size), g, d, t, os⟩) :
    codeAny (model prog w) A (.call (.ref C) ⟨rest, kw⟩) R ⟨h, g, d, t, os⟩ := by
  have lk := tc_lookup
  have bd := tc_bind (.ref C)
  have ty : (⟨h, g, d, t, os⟩ : Shared).TypeIs (.ref C) "type" := ⟨_, hC, rfl⟩
  refine codeAny_of_tree (show wpAny _ _ (callAny (.ref C) _) _ _ _ from ?_)
  repeat (any_goals (first | assumption | with_reducible refine wpAny_loadPart_at hC ?_ | wp_step))
  refine ⟨rfl, codeAny_call_builtin_at (Code.quiet_builtin _ (by decide +kernel)) entry_typeCall (wpAny_check_type_call_sub hC (typeCallKw F hT hC ini bnd hrest (codeAny_mono hq fun r s' z => ?_)))⟩
  rcases r with e | (v | _ | _ | _) <;> exact z
end
end RS

/-! ExcMk: C(e, ..), C(f=e, ..) as values, C an own exception class with its own __init__. -/
namespace RS
open PySem PySem.Spec PyProof.Rows L2

/-- an own exception class with an own __init__ -/
structure MkX (P : Program) (w : World) (K : PySem.W.Frag) (mg : Str → Option Value) (base : Heap) (x : Str) (C : Addr) (k : Nat) (ps : List Str) (sp : Sp) (ks : List Str) (π : List Nat) : Prop where
  oex : OexC K C
  ex : ∃ fI fd, PySem.W.findIn K (.ref C) "__init__" = some (some (.ref fI)) ∧ PySem.W.typeIn K (.ref fI) = some (.type "function") ∧ FnOk P w K mg base CX0 k fI fd ps sp ∧ Binds K fd ps [] ∧
    (∀ (s : Shared) (e : Value) (ws : List Value), K.In s.heap → ws.length = ks.length → BindsTo s fd ⟨[e], ks.zip ws⟩ (ps.zip (e :: permL π ws)))
  mgx : mg x = some (.ref C)
def tMkV (C : Addr) (sp : Sp) (ta : TA) : TE := fun σ H Q => ta σ H fun vs H1 => vs.length ≤ 1000 ∧ ∀ a, H1 a = none → sp (.ref a :: vs) (upd H1 a (exo a C none)) (fun v H2 => v = .non ∧ Q (.ref a) H2) E0
def tMkK (C : Addr) (sp : Sp) (ks : List Str) (π : List Nat) (tk : TA) : TE := fun σ H Q => tk σ H fun zs H1 => zs.length = ks.length ∧ ∀ a, H1 a = none → sp (.ref a :: permL π zs) (upd H1 a (exo a C none)) (fun v H2 => v = .non ∧ Q (.ref a) H2) E0
section
variable {X : Cx} {pins : List (Addr × Obj)} {σ : L2.St} {H : Hp} {s : Shared}
theorem mk_run {x : Str} {C : Addr} {k : Nat} {ps ks : List Str} {sp : Sp} {π : List Nat} {us ns : List Value} {vs : List V} {kw : List (Str × Value)} {Q : VK} (M : MkX X.prog X.w X.K X.mg X.base x C k ps sp ks π) (hr : Room (k + 1) X.A) (I : Inv X pins σ H s) (hus : us.length ≤ 1000)
    (bind : ∀ (fd : FuncData), Binds X.K fd ps [] → (∀ (s : Shared) (e : Value) (ws : List Value), X.K.In s.heap → ws.length = ks.length → BindsTo s fd ⟨[e], ks.zip ws⟩ (ps.zip (e :: permL π ws))) → ∀ (s : Shared) (e : Value), X.K.In s.heap → BindsTo s fd ⟨e :: us, kw⟩ (ps.zip (e :: ns)))
    (r : Vals vs ns) (h : ∀ a, H a = none → sp (.ref a :: vs) (upd H a (exo a C none)) (fun v H2 => v = .non ∧ Q (.ref a) H2) E0) : wpAny (model X.prog X.w) X.A (call (.ref C) us kw) (EP X pins σ Q) X.xe s := by
  obtain ⟨fI, fd, iC, tI, F1, hb, hbk⟩ := M.ex
  obtain ⟨nm, q, N, bs, bm, sn, sub, ab, col, dd, k0, k1, k2, k3, k5, hC, hbm⟩ := M.oex.cls
  have KX := I.kIn
  have b := bind fd hb hbk
  obtain ⟨hp, g, dr, tk, os⟩ := s
  have hsz : hp.objs.size ≤ hp.objs.size + 1 := Nat.le_succ _
  have hn : H (hp.objs.size + 1) = none := I.hok.fresh hsz
  have up : ∀ b o, hp.get? b = some o → ((hp.push (PySem.W.kdv_tup us)).push (PySem.HandSPX.excO C hp.objs.size)).get? b = some o := fun b o e => Heap.get?_push_of_some _ (Heap.get?_push_of_some _ e)
  have e1 : ((hp.push (PySem.W.kdv_tup us)).push (PySem.HandSPX.excO C hp.objs.size)).get? (hp.objs.size + 1) = some (PySem.HandSPX.excO C hp.objs.size) := by heap_get
  have I2 : Inv X pins σ (upd H (hp.objs.size + 1) (exo (hp.objs.size + 1) C none)) ⟨(hp.push (PySem.W.kdv_tup us)).push (PySem.HandSPX.excO C hp.objs.size), g, dr, tk, os⟩ := I.laid (t' := tk) up hsz (exo_ok e1)
  refine wpAny_call (callKw F.excBase_ValueError (fun Y => PySem.HandSPX.refsVE_contains Y bm hbm) (KX _ _ hC) (PySem.W.looks_findIn KX iC) (fun self => PySem.W.bind_fn KX self tI) (by rw [sizeLine_eq]; omega)
    (codeAny_mono (F1.run _ X.stack _ _ ⟨Value.ref (hp.objs.size + 1) :: us, kw⟩ (Value.ref (hp.objs.size + 1) :: ns) (V.ref (hp.objs.size + 1) :: vs) _ E0 (hr.make C us kw) (I2.env0.make C us kw) (b _ _ I2.kIn) (.cons rfl r) (h _ hn)) fun r s' z => ?_))
  cases r with
  | error er => exact z.elim
  | ok fl =>
    cases fl with
    | ret u =>
      obtain ⟨v, H2, J, rv, rfl, q⟩ := I2.after z
      exact ⟨rv, .ref (hp.objs.size + 1), H2, J, rfl, q⟩
    | next => exact False.elim z
    | brk => exact False.elim z
    | cont => exact False.elim z
theorem pe_mkV {x : Str} {C : Addr} {j k : Nat} {ps ks : List Str} {sp : Sp} {π : List Nat} {e : Expr} {es : List Expr} {ta : TA} {p pos : Pos} (M : MkX X.prog X.w X.K X.mg X.base x C j ps sp ks π) (hr : Room k X.A) (hk : j + 1 ≤ k) (ha : PA X (e :: es) ta) (hg : Gl X x := by rfl)
    (hdb : (x == ("__debug__" : Str)) = false := by decide) (he : starEach (e :: es) X.env = (false, eval e X.env) :: starEach es X.env := by rfl) (hpl : (backTo pos (starEach es X.env)).any (·.1) = false := by rfl) :
    PE X (.Call (.Name x p) (e :: es) [] pos) (tMkV C sp ta) := by
  refine ⟨fun pins s σ H Q I h => wpAny_Call_Name_kw (ld_glob I hg M.mgx ?_ hdb)⟩
  refine PySem.W.callWith_K (h₀ := X.base) I.ok.mod.kin M.oex.kC (thn (ha.run pos pins s σ H _ I h) fun us s1 ⟨vs, H1, I1, r, hl, q⟩ => ⟨I1.kIn, ?_⟩) he hpl
  obtain ⟨_, _, _, _, F1, _⟩ := M.ex
  show wpAny _ _ (call (.ref C) us) _ _ _
  refine mk_run M (hr.mono hk) I1 (by rw [← r.length]; exact hl) (fun fd b _ s e hK => ?_) r q
  have n := F1.len _ _ _ _ (q _ (I1.hok.fresh (Nat.le_refl _)))
  have := b s (e :: us) hK (by rw [List.append_nil, List.length_cons, ← r.length]; exact n)
  rw [List.append_nil] at this
  exact this
theorem pe_mkK {x : Str} {C : Addr} {j k : Nat} {ps ks : List Str} {sp : Sp} {π : List Nat} {kws : List Keyword} {tk : TA} {p pos : Pos} (M : MkX X.prog X.w X.K X.mg X.base x C j ps sp ks π) (hr : Room k X.A) (hk : j + 1 ≤ k) (hkw : PK X kws tk) (hg : Gl X x := by rfl)
    (hall : (backToKw pos (keywordEach kws X.env)).all (·.1.isSome) = true := by rfl) (hks : (backToKw pos (keywordEach kws X.env)).filterMap (·.1) = ks := by rfl) (hdb : (x == ("__debug__" : Str)) = false := by decide)
    (hpl : ((backTo pos (starEach [] X.env)).any (·.1) || (backToKw pos (keywordEach kws X.env)).any (·.1.isNone)) = false := by rfl) :
    PE X (.Call (.Name x p) [] kws pos) (tMkK C sp ks π tk) := by
  refine ⟨fun pins s σ H Q I h => wpAny_Call_Name_kw (ld_glob I hg M.mgx ?_ hdb)⟩
  refine PySem.W.callWith_KW0 (h₀ := X.base) I.ok.mod.kin M.oex.kC hall (thn (hkw.run pos pins s σ H _ I h) fun ws s1 ⟨zs, H1, I1, rz, hl, q⟩ => ⟨I1.kIn, ?_⟩) hpl
  rw [hks]
  exact mk_run M (hr.mono hk) I1 (Nat.zero_le _) (fun fd _ b s e hK => b s e ws hK (by rw [← rz.length]; exact hl)) (vals_perm rz π) q
end
end RS

/-! ExcVe: ValueError(e) as a value. -/
namespace RS
open PySem PySem.Spec PyProof.Rows L2
section
variable {X : Cx}
theorem pe_veV {e : Expr} {ta : TE} {p pos : Pos} (hm : X.mg "ValueError" = none) (ha : PE X e ta) (hg : Gl X "ValueError" := by rfl)
    (he : starEach [e] X.env = (false, eval e X.env) :: starEach [] X.env := by rfl) (hpl : (backTo pos (starEach [] X.env)).any (·.1) = false := by rfl) :
    PE X (.Call (.Name "ValueError" p) [e] [] pos) (fun σ H Q => ta σ H fun _ H1 => ∀ a, H1 a = none → Q (.ref a) (upd H1 a (ExO (.type "ValueError") a))) := by
  refine ⟨fun pins s σ H Q I h => ?_⟩
  refine wpAny_Call_Name_kw (ld_blt I hg hm PyProof.Rows.Boot.«ValueError» ?_ (by decide) (by decide))
  refine PyProof.Rows.callWith_type1 (Q := EP X pins σ Q) ?_ he hpl
  rw [he]
  show wpAny _ _ (spliced ((false, eval e X.env) :: backTo pos (starEach [] X.env))) _ _ s
  refine Calls.spliced_cons (thn (ha.run pins s σ H _ I h) fun u s1 ⟨v, H1, I1, r1, q1⟩ => ?_)
  refine Calls.spliced_nil ?_
  obtain ⟨hp1, g1, d1, tk1, os1⟩ := s1
  refine wpAny_call_exc exb_ValueError.call (fun h' a mk => ?_) (by show 1 ≤ sizeLine; rw [sizeLine_eq]; omega)
  have hn : H1 a = none := I1.hok.gone mk.new
  obtain ⟨t, ht, _, _⟩ := mk.there
  exact ⟨.ref a, upd H1 a (ExO (.type "ValueError") a), I1.laidN mk.keeps mk.new hn (exO_ok ht ⟨rfl, rfl⟩ rfl rfl rfl (show 4 < 6 by decide)), rfl, q1 a hn⟩
theorem pe_exFK {K : PySem.W.Frag} (hK : X.K = K) {e : Expr} {te : TE} {pos : Pos} {n : Str} (he : PE X e te) (hb : attributeBase e n X.env (eval e X.env) = eval e X.env := by rfl) : PE X (.Attribute e n pos) (tExF K n te) := hK ▸ pe_exF he hb
end
end RS

/-! Exk: what exception classes must say, as Bool functions that the kernel runs. -/
namespace RS
open PySem PySem.Spec PyProof.Rows L2

def exkB (K : PySem.W.Frag) (C : Addr) : Bool :=
  (PySem.W.clsIn K C).isSome && (PySem.W.findIn K (.ref C) "__getattribute__" == some (some (.builtin "BaseException.__getattribute__"))) && (PySem.W.findIn K (.ref C) "__getattr__" == some none) && (PySem.W.subIn K (.ref C) (.type "BaseException") == some true) && PySem.W.hasDictIn K C &&
  (PySem.W.findIn K (.ref C) "__class__" == some (some (.builtin "object.__class__"))) && (PySem.W.specialIn K (.builtin "object.__class__") "__get__" == some (some (.builtin "getset_descriptor.__get__"))) && (PySem.W.takesIn K (.builtin "object.__class__") == some true) && (PySem.W.mroIn K C (.type "object") == some true)
theorem exk_of {K : PySem.W.Frag} {C : Addr} (h : exkB K C = true) : ExK K C := by
  unfold exkB at h
  simp only [Bool.and_eq_true, beq_iff_eq] at h
  obtain ⟨⟨⟨⟨⟨⟨⟨⟨h1, h2⟩, h3⟩, h4⟩, h5⟩, h6⟩, h7⟩, h8⟩, h9⟩ := h
  exact ⟨h1, h2, h3, h4, h5, h6, h7, h8, h9⟩
def oexB (K : PySem.W.Frag) (C : Addr) : Bool := (match K.lookup C with
  | some ⟨.type "type", _, .cls cd, sl⟩ => (match cd.mro, sl.toList with
    | .ref C' :: bm, [_, _, _, _, some (.builtin n), _] => C' == C && n == "ValueError.__new__" && !cd.hasDel && cd.hasDict && PySem.HandSPX.refsVE bm
    | _, _ => false)
  | _ => false) && (PySem.W.findIn K (.ref C) "__setattr__" == some (some (.builtin "object.__setattr__"))) && (PySem.W.subIn K (.ref C) (.type "BaseException") == some true) && (PySem.W.typeIn K (.ref C) == some (.type "type")) && PySem.W.keepIn K (.ref C)
theorem oex_of {K : PySem.W.Frag} {C : Addr} (h : oexB K C = true) : OexC K C := by
  unfold oexB at h
  simp only [Bool.and_eq_true, beq_iff_eq] at h
  obtain ⟨⟨⟨⟨q, h2⟩, h3⟩, h4⟩, h5⟩ := h
  refine ⟨?_, h2, h3, h4, h5⟩
  split at q
  · rename_i dd cd sl ho
    split at q
    · rename_i C' bm k0 k1 k2 k3 n k5 hm hs
      simp only [Bool.and_eq_true, beq_iff_eq, Bool.not_eq_true'] at q
      obtain ⟨⟨⟨⟨rfl, rfl⟩, hdel⟩, hd⟩, ht⟩ := q
      obtain ⟨nm, bs, mro, ns, qn, hdc, sn, sub, ab, col, del⟩ := cd
      dsimp only at hm hdel hd
      subst hm hdel hd
      have hsl : sl = #[k0, k1, k2, k3, some (.builtin "ValueError.__new__"), k5] := by
        obtain ⟨l⟩ := sl
        simp only at hs
        rw [hs]
      subst hsl
      exact ⟨nm, qn, ns, bs, bm, sn, sub, ab, col, dd, k0, k1, k2, k3, k5, ho, ht⟩
    · cases q
  · cases q
def supB (P : Program) (K : PySem.W.Frag) (C cc cda : Addr) : Bool :=
  (match K.lookup cda with
    | some ⟨_, _, .fields vs, _⟩ => (match (vs[2]? : Option Value) with | some (Value.str file _) => P.main.file == file | _ => false)
    | _ => false) &&
  (match K.lookup cc with
    | some ⟨_, _, .cell (some (.ref C')), _⟩ => C' == C
    | _ => false) &&
  (PySem.W.clsIn K C).isSome && (PySem.W.mroIn K C (.ref C) == some true) && !(P.main.scope.names.lookup ("super" : Str)).isSome && (PySem.W.nsIn K cStatics "thirdparty.any" == some none) &&
  (PySem.W.ks_superIn K C C "__init__" == some (some (.builtin "ValueError.__init__"))) && (PySem.W.subIn K (.ref C) (.type "ValueError") == some true)
theorem sup_of {P : Program} {K : PySem.W.Frag} {mg : Str → Option Value} {C cc cda : Addr} (h : supB P K C cc cda = true) (m : mg "super" = none) (o : OexC K C) : SupOk P K mg C cc cda := by
  unfold supB at h
  simp only [Bool.and_eq_true, beq_iff_eq, Bool.not_eq_true'] at h
  obtain ⟨⟨⟨⟨⟨⟨⟨h1, h2⟩, h3⟩, h4⟩, h5⟩, h6⟩, h7⟩, h8⟩ := h
  refine ⟨?_, ?_, h3, h4, m, h5, h6, h7, h8, o⟩
  · split at h1
    · rename_i ccl cdd vs ccs ho
      split at h1
      · rename_i file tf hv
        exact ⟨ccl, cdd, vs, ccs, file, tf, ho, hv, by simpa using h1⟩
      · cases h1
    · cases h1
  · split at h2
    · rename_i cl cld C' csl ho
      have e : C' = C := by simpa using h2
      subst e
      exact ⟨cl, cld, csl, ho⟩
    · cases h2
/-- an exception of the class C told of all classes in cs: of the one at i alone -/
def kitB (K : PySem.W.Frag) (t : Value) (cs : List Addr) (fl : Nat → Bool) : Bool := (List.range cs.length).all fun j => (cs[j]?).any fun C => PySem.W.kitOne K t (.ref C) == some (fl j)
theorem kit_of {K : PySem.W.Frag} {t : Value} {cs : List Addr} {fl : Nat → Bool} (h : kitB K t cs fl = true) : ∀ j C, cs[j]? = some C → PySem.W.kitOne K t (.ref C) = some (fl j) := by
  intro j C e
  have hj : j < cs.length := (List.getElem?_eq_some_iff.mp e).1
  unfold kitB at h
  rw [List.all_eq_true] at h
  have := h j (List.mem_range.mpr hj)
  rw [e] at this
  simpa using this
end RS

namespace RS
open PySem PySem.Spec PyProof.Rows L2
def topS (i : Nat) : Stmt := PySem.Challenge.pw_runsasshown_k00_errors_apart.main.body.getD i (.Pass ⟨0, 0, 0, 0⟩)
def iniS (i : Nat) : Stmt := (C8.clsBody (topS i)).getD 0 (.Pass ⟨0, 0, 0, 0⟩)
abbrev s_law_begun : Stmt := topS 49
abbrev s_law_blended : Stmt := topS 50
abbrev s_law_draw : Stmt := topS 51
abbrev s_law_pick : Stmt := topS 52
abbrev s_law_k00_flags : Stmt := topS 53
abbrev s_law : Stmt := topS 54
end RS

/-! Draws: the source of draws that every law has: a dict with two lists and two ints; what a draw changes and gives. -/
namespace RS
open PySem PySem.Spec PyProof.Rows L2

/-! ### the state -/
def kS (x : Str) : Key := Sum.inr x
def stk (g c : Addr) (l t : Int) : List (Key × V) := [(kS "great", .ref g), (kS "cells", .ref c), (kS "left", .int l), (kS "turn", .int t)]
theorem dget_great {H : Hp} {d g c : Addr} {l t : Int} (h : H d = some (.dK (stk g c l t))) : DGet H d (.str "great") (some (.ref g)) := .inl ⟨_, kS "great", .inl h, rfl, by simp [stk, valV, kS]⟩
theorem dget_cells {H : Hp} {d g c : Addr} {l t : Int} (h : H d = some (.dK (stk g c l t))) : DGet H d (.str "cells") (some (.ref c)) := .inl ⟨_, kS "cells", .inl h, rfl, by simp +decide [stk, valV, kS, List.find?_cons]⟩
theorem dget_left {H : Hp} {d g c : Addr} {l t : Int} (h : H d = some (.dK (stk g c l t))) : DGet H d (.str "left") (some (.int l)) := .inl ⟨_, kS "left", .inl h, rfl, by simp +decide [stk, valV, kS, List.find?_cons]⟩
theorem dget_turn {H : Hp} {d g c : Addr} {l t : Int} (h : H d = some (.dK (stk g c l t))) : DGet H d (.str "turn") (some (.int t)) := .inl ⟨_, kS "turn", .inl h, rfl, by simp +decide [stk, valV, kS, List.find?_cons]⟩
theorem four_line : 4 < sizeLine := by rw [sizeLine_eq]; decide
theorem dput_left {H : Hp} {d g c : Addr} {l t : Int} (h : H d = some (.dK (stk g c l t))) (v : Int) : DPut H d (.str "left") (.int v) (upd H d (.dK (stk g c v t))) :=
  .inl ⟨_, kS "left", h, rfl, four_line, by simp +decide [stk, putK, kS]⟩
theorem dput_turn {H : Hp} {d g c : Addr} {l t : Int} (h : H d = some (.dK (stk g c l t))) (v : Int) : DPut H d (.str "turn") (.int v) (upd H d (.dK (stk g c l v))) :=
  .inl ⟨_, kS "turn", h, rfl, four_line, by simp +decide [stk, putK, kS]⟩
structure Stt (H : Hp) (d g c : Addr) (T : Nat) : Prop where
  ne : c ≠ g
  ex : ∃ (gs cs : List Int) (l t : Int), H d = some (.dK (stk g c l t)) ∧ H g = some (.lst (gs.map V.int)) ∧ H c = some (.lst (cs.map V.int)) ∧ 0 ≤ t ∧ t ≤ T
/-- all but the state's own two objects stays -/
def Ch (d g : Addr) (H H' : Hp) : Prop := ∀ b o, b ≠ d → b ≠ g → H b = some o → H' b = some o
theorem Ch.refl {d g : Addr} (H : Hp) : Ch d g H H := fun _ _ _ _ h => h
theorem Ch.trans {d g : Addr} {H H1 H2 : Hp} (a : Ch d g H H1) (b : Ch d g H1 H2) : Ch d g H H2 := fun c o h1 h2 h => b c o h1 h2 (a c o h1 h2 h)
theorem Ch.same {d g : Addr} {H H' : Hp} (e : Same H H') : Ch d g H H' := fun b o _ _ h => e b o h
theorem Ch.new {d g p : Addr} {H : Hp} {o : HO} (h : H p = none) : Ch d g H (upd H p o) := fun b u _ _ e => by rw [upd_ne (ne_of_none e h)]; exact e
theorem Stt.mono {H : Hp} {d g c : Addr} {T T' : Nat} (S : Stt H d g c T) (h : T ≤ T') : Stt H d g c T' := by
  obtain ⟨gs, cs, l, t, h1, h2, h3, h4, h5⟩ := S.ex
  exact ⟨S.ne, gs, cs, l, t, h1, h2, h3, h4, by omega⟩
theorem Stt.d {H : Hp} {d g c : Addr} {T : Nat} (S : Stt H d g c T) : ∃ kv, H d = some (.dK kv) := by obtain ⟨_, _, _, _, h, _⟩ := S.ex; exact ⟨_, h⟩
theorem Stt.g {H : Hp} {d g c : Addr} {T : Nat} (S : Stt H d g c T) : ∃ xs, H g = some (.lst xs) := by obtain ⟨_, _, _, _, _, h, _⟩ := S.ex; exact ⟨_, h⟩
theorem Stt.c {H : Hp} {d g c : Addr} {T : Nat} (S : Stt H d g c T) : ∃ xs, H c = some (.lst xs) := by obtain ⟨_, _, _, _, _, _, h, _⟩ := S.ex; exact ⟨_, h⟩
theorem Ch.tk {K : PySem.W.Frag} {d g c : Addr} {H H' : Hp} {T : Nat} (C : Ch d g H H') (S : Stt H d g c T) : TK K H H' := by
  obtain ⟨kv, hd⟩ := S.d
  obtain ⟨xs, hg⟩ := S.g
  exact TK.of (fun a ys e => C a _ (ne_of e hd (by intro z; cases z)) (ne_of e hg (by intro z; cases z)) e) fun a o u e => C a _ (ne_of e hd (by intro z; cases z)) (ne_of e hg (by intro z; cases z)) e
theorem Ch.free {d g c : Addr} {H H' : Hp} {T : Nat} (C : Ch d g H H') (S' : Stt H' d g c T) {p : Addr} (h : H' p = none) : H p = none := by
  obtain ⟨kv, hd⟩ := S'.d
  obtain ⟨xs, hg⟩ := S'.g
  cases e : H p with
  | none => rfl
  | some o =>
    have := C p o (fun z => by rw [z, hd] at h; cases h) (fun z => by rw [z, hg] at h; cases h) e
    rw [h] at this; cases this
/-- the state stays where all else is new -/
theorem Stt.keep {H H' : Hp} {d g c : Addr} {T : Nat} (S : Stt H d g c T) (e : Same H H') : Stt H' d g c T := by
  obtain ⟨gs, cs, l, t, h1, h2, h3, h4, h5⟩ := S.ex
  exact ⟨S.ne, gs, cs, l, t, e _ _ h1, e _ _ h2, e _ _ h3, h4, h5⟩
theorem Stt.new {H : Hp} {d g c p : Addr} {T : Nat} {o : HO} (S : Stt H d g c T) (h : H p = none) : Stt (upd H p o) d g c T := S.keep (same_new h)

abbrev topT : Nat := 2 ^ 40

/-! ### _law_begun -/
theorem sc_law_begun : FnScope ["script", "great", "cell"] ["script"] (defScope s_law_begun) := ⟨rfl, rfl, rfl, by decide +kernel, rfl, by decide +kernel, by decide +kernel⟩
def spBegun (K : PySem.W.Frag) : Sp := fun vs H Q _ => ∃ (a : Addr) (ns : List Int), vs = [.ref a] ∧ SqL K H a (ns.map V.int) ∧ ns.length ≤ 1000 ∧
  ∀ d g c H', Same H H' → H d = none → H g = none → H c = none → d ≠ g → Stt H' d g c 0 → Q (.ref d) H'
section
variable {P : Program} {w : World} {K : PySem.W.Frag} {mg : Str → Option Value} {base : Heap}
abbrev absI (n : Int) : Int := if n < 0 then -n else n
theorem len_filterMap_le {α β : Type} (f : α → Option β) : ∀ l : List α, (l.filterMap f).length ≤ l.length
  | [] => Nat.le_refl _
  | x :: l => by
    have := len_filterMap_le f l
    rw [List.filterMap_cons]
    split <;> simp only [List.length_cons] <;> omega
theorem take_snoc {α : Type} {l : List α} {i : Nat} {x : α} (h : l[i]? = some x) : l.take (i + 1) = l.take i ++ [x] := by
  rw [List.take_add_one, h]; rfl
theorem ok_begun {f : Addr} {fd : FuncData} (F : Fun K "_law_begun" "_law_begun" s_law_begun f fd) (n_abs : mg "abs" = none) : FnOk P w K mg base CX0 1 f fd ["script"] (spBegun K) := by
  refine F.ok sc_law_begun (fun vs H Q E h => ?_) (fun cdv A outer s H vs Q E hr h => ?_)
  · obtain ⟨a, ns, rfl, _⟩ := h; rfl
  · obtain ⟨a, ns, rfl, hS, hl, k⟩ := h
    have nd := sc_law_begun.nd
    have hz : ∀ n, n ≤ 1000 → n < sizeLine := fun n h => by rw [sizeLine_eq]; omega
    refine ⟨_, (pss_cons (ps_setLc (i := 1) (own := [("cell", 2)]) (g := gName 2) rfl nd rfl rfl (sw_true rfl rfl rfl (by decide +kernel)) (pi_seq (pv 0)) (blkOk_by (own := [("cell", 2)]) (N := ["script", "great", "cell"]) (sc := defScope s_law_begun) (by decide +kernel)) (fun _ _ _ _ _ => (pg_name (i := 2) nd rfl (Or.inl rfl))) (fun _ _ _ _ _ => (pts_one (pt_cmpR op_ge (pe_callB call_abs (by rfl) n_abs (by decide +kernel) (pa_cons (pv 2) pa_nil)) (pe_op op_pow pe_int pe_int) (nomark _)))) (fun _ _ _ _ _ => (pe_op op_sub (pe_callB call_abs (by rfl) n_abs (by decide +kernel) (pa_cons (pv 2) pa_nil)) (pe_op op_pow pe_int pe_int))))
      (pss_one (ps_ret (pe_disp (pps_cons pe_str (pv 1) (pps_cons pe_str (pe_lc (own := [("cell", 2)]) (g := gName 2) rfl nd (pi_seq (pv 0)) (blkOk_by (own := [("cell", 2)]) (N := ["script", "great", "cell"]) (sc := defScope s_law_begun) (by decide +kernel)) (fun _ _ _ _ _ => (pg_name (i := 2) nd rfl (Or.inl rfl))) (fun _ _ _ _ _ => pts_nil) (fun _ _ _ _ _ => (pe_callB call_abs (by rfl) n_abs (by decide +kernel) (pa_cons (pv 2) pa_nil)))) (pps_cons pe_str pe_int (pps_cons pe_str pe_int pps_nil)))) (by rfl) (by rfl) (fun z => by cases z) (by decide))))), ?_⟩
    have intAt : ∀ {i : Nat} {x : V}, (ns.map V.int)[i]? = some x → ∃ n, ns[i]? = some n ∧ x = .int n := fun {i x} hx => by
      rw [List.getElem?_map] at hx
      cases e : ns[i]? with
      | none => rw [e] at hx; cases hx
      | some n => rw [e] at hx; exact ⟨n, rfl, (Option.some.inj hx).symm⟩
    let fg : Int → Option Int := fun n => if 10 ^ 18 ≤ absI n then some (absI n - 10 ^ 18) else none
    refine ⟨_, rfl, a, rfl, .inl ⟨⟨_, hS⟩, fun D nD => lc_list (K := K) (a := a) (xs := ns.map V.int) (fun i H' => Same H H' ∧ H' D = some (.lst (((ns.take i).filterMap fg).map V.int)))
      ⟨same_new nD, upd_same⟩ (fun i H' _ h => h.1.seq hS) (fun i x H' hx ⟨h1, h2⟩ => ?_) (fun H' ⟨h1, h2⟩ => ?_)⟩⟩
    · obtain ⟨n, hn, rfl⟩ := intAt hx
      have hlt : i < ns.length := (List.getElem?_eq_some_iff.mp hn).1
      refine ⟨rfl, _, rfl, n, rfl, _, _, rfl, rfl, ⟨by decide, by decide, by decide⟩, _, _, rfl, rfl, _, rfl, ?_⟩
      have e18 : (10 : Int) ^ (18 : Int).toNat = 10 ^ 18 := rfl
      have hln : ((ns.take i).filterMap fg).length ≤ 1000 := Nat.le_trans (len_filterMap_le _ _) (by rw [List.length_take]; omega)
      refine ite2 (fun hc => ?_) (fun hc => ?_)
      · have hc' : (10 : Int) ^ 18 ≤ absI n := of_decide_eq_true hc
        have ef : fg n = some (absI n - 10 ^ 18) := if_pos hc'
        refine ⟨_, rfl, n, rfl, _, _, rfl, rfl, ⟨by decide, by decide, by decide⟩, _, _, rfl, rfl, _, h2, by rw [List.length_map]; exact hz _ hln, fun b o e => ?_, ?_⟩
        · rw [upd_ne (ne_of_none e nD)]; exact h1 b o e
        · rw [upd_same, take_snoc hn, List.filterMap_append, List.map_append, List.filterMap_cons, ef]; rfl
      · have hc' : ¬ (10 : Int) ^ 18 ≤ absI n := fun z => hc (decide_eq_true z)
        have ef : fg n = none := if_neg hc'
        refine ⟨h1, ?_⟩
        rw [take_snoc hn, List.filterMap_append, List.filterMap_cons, ef, List.filterMap_nil, List.append_nil]; exact h2
    · intro p np
      rw [List.length_map, List.take_length] at h2
      have hpD : D ≠ p := fun z => by rw [← z, h2] at np; cases np
      have s1 : Same H (upd H' p (.dK [])) := h1.trans (same_new np)
      refine ⟨_, rfl, _, rfl, a, rfl, .inl ⟨⟨_, s1.seq hS⟩, fun D2 nD2 => lc_list (K := K) (a := a) (xs := ns.map V.int) (fun i H2 => Same (upd H' p (.dK [])) H2 ∧ H2 D2 = some (.lst (((ns.take i).map absI).map V.int)))
        ⟨same_new nD2, upd_same⟩ (fun i H2 _ h => (s1.trans h.1).seq hS) (fun i x H2 hx ⟨g1, g2⟩ => ?_) (fun H2 ⟨g1, g2⟩ => ?_)⟩⟩
      · obtain ⟨n, hn, rfl⟩ := intAt hx
        have hlt : i < ns.length := (List.getElem?_eq_some_iff.mp hn).1
        refine ⟨rfl, _, rfl, n, rfl, _, g2, by rw [List.length_map, List.length_map, List.length_take]; exact hz _ (by omega), fun b o e => ?_, ?_⟩
        · rw [upd_ne (ne_of_none e nD2)]; exact g1 b o e
        · rw [upd_same, take_snoc hn, List.map_append, List.map_append]; rfl
      · rw [List.length_map, List.take_length] at g2
        have hp2 : H2 p = some (.dK []) := g1 _ _ upd_same
        have hD2p : D2 ≠ p := fun z => by rw [z, upd_same] at nD2; cases nD2
        have hDD2 : D ≠ D2 := fun z => by
          have : upd H' p (.dK []) D = some _ := (upd_ne hpD).trans h2
          rw [z, nD2] at this; cases this
        have h2D : H2 D = some (.lst ((ns.filterMap fg).map V.int)) := g1 _ _ ((upd_ne hpD).trans h2)
        refine ⟨hp2, stk D D2 0 0, rfl, (by show 4 ≤ 15; decide), k p D D2 _ (fun b o e => ?_) ?_ nD ?_ hpD.symm ⟨hDD2.symm, _, _, 0, 0, ?_, (upd_ne hpD).trans h2D, (upd_ne hD2p).trans g2, Int.le_refl _, by decide⟩⟩
        · have hbp : b ≠ p := ne_of_none (h1 _ _ e) np
          rw [upd_ne hbp]; exact g1 _ _ ((upd_ne hbp).trans (h1 _ _ e))
        · exact h1.free np
        · exact s1.free nD2
        · rw [upd_same]; rfl
/-! ### _law_blended -/
theorem sc_law_blended : FnScope ["state", "prime", "turn", "found", "blend", "cell"] ["state"] (defScope s_law_blended) := ⟨rfl, rfl, rfl, by decide +kernel, rfl, by decide +kernel, by decide +kernel⟩
def spBlended : Sp := fun vs H Q _ => ∃ (d g c : Addr) (T : Nat), vs = [.ref d] ∧ Stt H d g c T ∧ T < topT ∧ ∀ r H', Ch d g H H' → Stt H' d g c (T + 1) → (∀ xs, H g = some (.lst xs) → H' g = some (.lst xs)) → Q (.int r) H'
theorem three_line : 3 ≤ sizeLine := by rw [sizeLine_eq]; decide
theorem fdiv67 {p : Int} (h1 : 0 ≤ p) (h2 : p < 2 ^ 31) : 0 ≤ p / 67 ∧ p / 67 < 2 ^ 31 := by omega
theorem ok_blended {f : Addr} {fd : FuncData} (F : Fun K "_law_blended" "_law_blended" s_law_blended f fd) (n_int : mg "int" = none) : FnOk P w K mg base CX0 1 f fd ["state"] spBlended := by
  refine F.ok sc_law_blended (fun vs H Q E h => ?_) (fun cdv A outer s H vs Q E hr h => ?_)
  · obtain ⟨d, g, c, T, rfl, _⟩ := h; rfl
  · obtain ⟨d, g, c, T, rfl, S, hT, k⟩ := h
    have nd := sc_law_blended.nd
    obtain ⟨gs, cs, l, t, hd, hg, hc, ht0, htT⟩ := S.ex
    have eT : (topT : Int) = 1099511627776 := by decide
    have hT' : t < 1099511627776 := by have : ((T : Nat) : Int) < (topT : Nat) := by exact_mod_cast hT
                                       omega
    refine ⟨_, (pss_cons (ps_par (i := 2) (j := 3) rfl nd rfl rfl (by decide) rfl rfl (pa_cons (pe_op uAdd (pe_dget (hu_of hr) (pv 0) pe_str (fun _ _ => rfl)) pe_int) (pa_cons pe_int pa_nil)) rfl)
      (pss_cons (ps_dput (hu_of hr) (pv 0) pe_str (pv 2) rfl)
      (pss_cons (ps_for PassesOwn.never rfl (pi_seq (pe_lstN (pa_cons pe_int (pa_cons pe_int (pa_cons pe_int pa_nil))))) (pg_name (i := 1) nd rfl (Or.inl rfl))
        (pss_cons (ps_set (i := 4) nd rfl (Or.inl rfl) (pe_op uAdd (pe_op uMul pe_int (pv 2)) (pe_op op_fdiv (pv 1) pe_int)))
        (pss_cons (ps_for PassesOwn.never rfl (pi_seq (pe_dget (hu_of hr) (pv 0) pe_str (fun _ _ => rfl))) (pg_name (i := 5) nd rfl (Or.inl rfl))
          (pss_one (ps_set (i := 4) nd rfl (Or.inl rfl) (pe_op op_mod (pe_callTy call_int1 (by rfl) n_int (by decide +kernel) (pa_cons (pe_op uAdd (pe_op uAdd (pe_op uMul (pv 4) pe_int) (pv 5)) (pv 2)) pa_nil)) (pv 1)))))
        (pss_one (ps_set (i := 3) nd rfl (Or.inl rfl) (pe_op uAdd (pe_op uMul (pv 3) pe_int) (pe_op op_mod (pe_callTy call_int1 (by rfl) n_int (by decide +kernel) (pa_cons (pe_op op_pow (pv 4) pe_int) pa_nil)) (pv 1))))))))
      (pss_one (ps_ret (pv 3)))))), ?_⟩
    refine ⟨_, rfl, d, _, rfl, dget_turn hd, add_i ⟨_, _, rfl, ?_⟩⟩
    refine ⟨_, rfl, _, rfl, d, _, rfl, dput_turn hd _, ?_⟩
    have gd : g ≠ d := ne_of hg hd (by intro z; cases z)
    have cd : c ≠ d := ne_of hc hd (by intro z; cases z)
    refine lst_new (by show 3 ≤ 1000; decide) fun p np => ?_
    have dp : d ≠ p := fun z => by rw [z, upd_same] at np; cases np
    have np0 : H p = none := by rw [upd_ne dp.symm] at np; exact np
    generalize hG : upd (upd H d (.dK (stk g c l (t + 1)))) p (.lst [.int 2147482081, .int 2147482063, .int 2147482021]) = G
    have Gp : G p = some (.lst [.int 2147482081, .int 2147482063, .int 2147482021]) := by rw [← hG]; exact upd_same
    have Gd : G d = some (.dK (stk g c l (t + 1))) := by rw [← hG, upd_ne dp]; exact upd_same
    have Go : ∀ b o, b ≠ d → H b = some o → G b = some o := fun b o hb e => by rw [← hG, upd_ne (ne_of_none e np0), upd_ne hb]; exact e
    have Gg := Go g _ gd hg
    have Gc := Go c _ cd hc
    refine ⟨p, rfl, .inl ⟨⟨_, SqL.of Gp⟩, for_list (K := K) (a := p) (xs := [.int 2147482081, .int 2147482063, .int 2147482021])
      (fun i σ H3 => G = H3 ∧ ∃ (v1 v4 v5 : Option V) (fnd : Int), σ = [some (.ref d), v1, some (.int (t + 1)), some (.int fnd), v4, v5])
      ⟨rfl, none, none, none, 0, rfl⟩ (fun i σ H3 _ ⟨h, _⟩ => by rw [← h]; exact SqL.of Gp) ?_ ?_⟩⟩
    · rintro i y σ H3 hy ⟨rfl, v1, v4, v5, fnd, rfl⟩
      obtain ⟨pr, rfl, p0, p1⟩ : ∃ pr : Int, y = .int pr ∧ 0 < pr ∧ pr < 2147483647 := by
        match i, hy with
        | 0, e => exact ⟨_, (Option.some.inj e).symm, by decide, by decide⟩
        | 1, e => exact ⟨_, (Option.some.inj e).symm, by decide, by decide⟩
        | 2, e => exact ⟨_, (Option.some.inj e).symm, by decide, by decide⟩
        | i + 3, e => simp at e
      have hq := fdiv67 (p := pr) (by omega) (by omega)
      refine ⟨_, rfl, mul_i (.inl ⟨by decide, by decide⟩) ⟨_, rfl, _, _, rfl, rfl, ⟨by decide, by decide⟩, add_i ?_⟩⟩
      refine ⟨_, rfl, d, _, rfl, dget_cells Gd, c, rfl, .inl ⟨⟨_, SqL.of Gc⟩, for_list (K := K) (a := c) (xs := cs.map V.int)
        (fun i σ H3 => G = H3 ∧ ∃ (v5 : Option V) (b : Int), σ = [some (.ref d), some (.int pr), some (.int (t + 1)), some (.int fnd), some (.int b), v5] ∧ 0 ≤ b ∧ b < 2 ^ 60)
        ⟨rfl, v5, _, rfl, by omega, by omega⟩ (fun i σ H3 _ ⟨h, _⟩ => by rw [← h]; exact SqL.of Gc) ?_ ?_⟩⟩
      · rintro j y σ H3 hy2 ⟨rfl, v5, b, rfl, b0, b1⟩
        obtain ⟨z, rfl⟩ : ∃ z, y = V.int z := by
          rw [List.getElem?_map] at hy2
          cases e : cs[j]? with
          | none => rw [e] at hy2; cases hy2
          | some z => rw [e] at hy2; exact ⟨z, (Option.some.inj hy2).symm⟩
        refine ⟨_, rfl, mul_i (.inr ⟨by decide, by decide⟩) ⟨_, rfl, add_i ⟨_, rfl, add_i (.inl ⟨_, rfl, _, rfl, _, _, rfl, rfl, p0, ?_⟩)⟩⟩⟩
        have m0 := Int.emod_nonneg (b * 69621 + z + (t + 1)) (by omega : pr ≠ 0)
        have m1 := Int.emod_lt_of_pos (b * 69621 + z + (t + 1)) p0
        exact ⟨rfl, _, _, rfl, m0, by omega⟩
      · rintro σ H3 ⟨rfl, v5, b, rfl, b0, b1⟩
        refine ⟨_, rfl, mul_i (.inr ⟨by decide, by decide⟩) ⟨_, rfl, _, _, rfl, rfl, ⟨by decide, by decide, by omega⟩, .inl ⟨_, rfl, _, rfl, _, _, rfl, rfl, p0, add_i ?_⟩⟩⟩
        exact ⟨rfl, _, _, _, _, rfl⟩
    · rintro σ H3 ⟨rfl, v1, v4, v5, fnd, rfl⟩
      refine ⟨_, rfl, k fnd _ (fun b o hb _ e => Go b o hb e) ⟨S.ne, gs, cs, l, t + 1, Gd, Gg, Gc, by omega, by omega⟩ fun xs e => Go g _ gd e⟩
/-! ### _law_draw -/
theorem sc_law_draw : FnScope ["state", "size_here", "found"] ["state", "size_here"] (defScope s_law_draw) := ⟨rfl, rfl, rfl, by decide +kernel, rfl, by decide +kernel, by decide +kernel⟩
def spDraw : Sp := fun vs H Q _ => ∃ (d g c : Addr) (T : Nat) (n : Int), vs = [.ref d, .int n] ∧ Stt H d g c T ∧ T < topT ∧ 0 < n ∧ n < 1073741824 ∧ ∀ r H', Ch d g H H' → Stt H' d g c (T + 1) → 0 ≤ r → r < n → Q (.int r) H'
theorem ok_draw {f : Addr} {fd : FuncData} (F : Fun K "_law_draw" "_law_draw" s_law_draw f fd) (n_int : mg "int" = none) (D_law_blended : Df P w K mg base "_law_blended" 1 ["state"] spBlended) : FnOk P w K mg base CX0 2 f fd ["state", "size_here"] spDraw := by
  refine F.ok sc_law_draw (fun vs H Q E h => ?_) (fun cdv A outer s H vs Q E hr h => ?_)
  · obtain ⟨d, g, c, T, n, rfl, _⟩ := h; rfl
  · obtain ⟨d, g, c, T, n, rfl, S, hT, n0, n1, k⟩ := h
    have nd := sc_law_draw.nd
    obtain ⟨gs, cs, l, t, hd, hg, hc, ht0, htT⟩ := S.ex
    have gd : g ≠ d := ne_of hg hd (by intro z; cases z)
    have cd : c ≠ d := ne_of hc hd (by intro z; cases z)
    refine ⟨_, (pss_cons (ps_if (pt_cmpR (uEq hr.units) (pe_dget (hu_of hr) (pv 0) pe_str (fun _ _ => rfl)) pe_int (nomark _))
        (pss_one (ps_dput (hu_of hr) (pv 0) pe_str (pe_ifExp (pt_cmpR (uNe hr.units) (pe_dget (hu_of hr) (pv 0) pe_str (fun _ _ => rfl)) (pe_lstN pa_nil) (nomark _)) (pe_bm PySem.F.plainAttrs_list PySem.F.slot_list_pop PySem.F.type_list_pop mt_popAt (pe_dget (hu_of hr) (pv 0) pe_str (fun _ _ => rfl)) (pa_cons pe_int pa_nil)) (pe_df D_law_blended hr (by omega) (pa_cons (pv 0) pa_nil))) rfl))
        pss_nil)
      (pss_cons (ps_set (i := 2) nd rfl (Or.inl rfl) (pe_op op_mod (pe_callTy call_int1 (by rfl) n_int (by decide +kernel) (pa_cons (pe_dget (hu_of hr) (pv 0) pe_str (fun _ _ => rfl)) pa_nil)) (pv 1)))
      (pss_cons (ps_dput (hu_of hr) (pv 0) pe_str (pe_op op_fdiv (pe_dget (hu_of hr) (pv 0) pe_str (fun _ _ => rfl)) (pv 1)) rfl)
      (pss_one (ps_ret (pv 2)))))), ?_⟩
    -- the last three rows, from any state
    have fin : ∀ H1, Ch d g H H1 → Stt H1 d g c (T + 1) → tSeq (tAsg (tOp (rI (fun _ j => 0 < j) fun i j => .int (i % j)) (tCB (fun xs H Q => (∃ i, xs = [.int i] ∧ Q (.int i) H) ∨ ∃ k, xs = [.bl k] ∧ Q (.int (if k then 1 else 0)) H) (tCons (tDGet (tVar 0) (tC (.str "left"))) tNil)) (tVar 1)) (gName 2))
        (tSeq (sDPut (tVar 0) (tC (.str "left")) (tOp (rI CDiv fun i j => .int (i / j)) (tDGet (tVar 0) (tC (.str "left"))) (tVar 1))) (tRet (tVar 2))) { nx := fun _ H' => Q .non H', rt := Q } (L2.start ["state", "size_here", "found"] [V.ref d, V.int n]) H1 := fun H1 C1 S1 => by
      obtain ⟨gs, cs, l, t, hd, hg, hc, ht0, htT⟩ := S1.ex
      have gd : g ≠ d := ne_of hg hd (by intro z; cases z)
      have cd : c ≠ d := ne_of hc hd (by intro z; cases z)
      refine ⟨_, rfl, d, _, rfl, dget_left hd, .inl ⟨_, rfl, _, rfl, _, _, rfl, rfl, n0, ?_⟩⟩
      refine ⟨_, rfl, d, _, rfl, dget_left hd, _, rfl, _, _, rfl, rfl, ⟨n0, n1⟩, _, rfl, d, _, rfl, dput_left hd _, _, rfl, ?_⟩
      refine k _ _ (C1.trans fun b o hb _ e => ?_) ⟨S1.ne, gs, cs, _, t, upd_same, ?_, ?_, ht0, htT⟩ (Int.emod_nonneg _ (by omega)) (Int.emod_lt_of_pos _ n0)
      · rw [upd_ne hb]; exact e
      · rw [upd_ne gd]; exact hg
      · rw [upd_ne cd]; exact hc
    refine ⟨_, rfl, d, _, rfl, dget_left hd, eq_f rfl rfl ⟨_, rfl, ?_⟩⟩
    refine ite2 (fun _ => ?_) (fun _ => fin H (Ch.refl H) (S.mono (Nat.le_succ _)))
    refine ⟨_, rfl, d, _, rfl, dget_great hd, lst_new (Nat.zero_le _) fun p np => ?_⟩
    have S1 := S.new (o := .lst []) np
    have C1 : Ch d g H (upd H p (.lst [])) := Ch.new np
    have hg1 : upd H p (.lst []) g = some (.lst (gs.map V.int)) := by rw [upd_ne (ne_of_none hg np)]; exact hg
    have hd1 : upd H p (.lst []) d = some (.dK (stk g c l t)) := by rw [upd_ne (ne_of_none hd np)]; exact hd
    have hc1 : upd H p (.lst []) c = some (.lst (cs.map V.int)) := by rw [upd_ne (ne_of_none hc np)]; exact hc
    refine eq_n (SqL.of hg1) (SqL.of upd_same) rfl ⟨_, rfl, ?_⟩
    have put : ∀ (v : Int) (H1 : Hp), Ch d g H H1 → Stt H1 d g c (T + 1) → ∃ (x : V), (L2.start ["state", "size_here", "found"] [V.ref d, V.int n])[0]? = some (some x) ∧ ∃ a H4, x = .ref a ∧ DPut H1 a (.str "left") (.int v) H4 ∧ Ch d g H H4 ∧ Stt H4 d g c (T + 1) := fun v H1 C2 S2 => by
      obtain ⟨gs, cs, l, t, hd, hg, hc, ht0, htT⟩ := S2.ex
      refine ⟨_, rfl, d, _, rfl, dput_left hd v, C2.trans fun b o hb _ e => ?_, ⟨S2.ne, gs, cs, _, t, upd_same, ?_, ?_, ht0, htT⟩⟩
      · rw [upd_ne hb]; exact e
      · rw [upd_ne (ne_of hg hd (by intro z; cases z))]; exact hg
      · rw [upd_ne (ne_of hc hd (by intro z; cases z))]; exact hc
    cases gs with
    | nil =>
      refine iteF ?_
      refine ⟨_, rfl, d, g, c, T, rfl, S1, hT, fun r H2 C2 S2 _ => ?_⟩
      obtain ⟨x, e, a, H4, e2, hp, C4, S4⟩ := put r H2 (C1.trans C2) S2
      exact ⟨x, e, a, H4, e2, hp, fin H4 C4 S4⟩
    | cons z gs =>
      refine iteT ?_
      refine ⟨_, rfl, d, _, rfl, dget_great hd1, .inl ⟨rfl, _, .inl (.inl hg1)⟩, g, _, 0, 0, .int z, rfl, rfl, hg1, by decide, by decide, ?_, rfl, ?_⟩
      · simp [seqIndex?]
      have C2 : Ch d g H (upd (upd H p (.lst [])) g (.lst ((V.int z :: gs.map V.int).eraseIdx 0))) := C1.trans fun b o _ hb e => by rw [upd_ne hb]; exact e
      have S2 : Stt (upd (upd H p (.lst [])) g (.lst ((V.int z :: gs.map V.int).eraseIdx 0))) d g c (T + 1) := ⟨S.ne, gs, cs, l, t, by rw [upd_ne gd.symm]; exact hd1, upd_same, by rw [upd_ne S.ne]; exact hc1, ht0, by omega⟩
      obtain ⟨x, e, a, H4, e2, hp, C4, S4⟩ := put z _ C2 S2
      exact ⟨x, e, a, H4, e2, hp, fin H4 C4 S4⟩
end
end RS

/-! Pick: _law_pick (the same lines as in Terms). -/
namespace RS
open PySem PySem.Spec PyProof.Rows L2

/-! ### displays -/
theorem Ch.ofSame {d g : Addr} {H H1 H2 : Hp} (c : Ch d g H H1) (e : Same H1 H2) : Ch d g H H2 := c.trans (Ch.same e)

/-! ### _law_pick -/
theorem sc_law_pick : FnScope ["state", "several"] ["state", "several"] (defScope s_law_pick) := ⟨rfl, rfl, rfl, by decide +kernel, rfl, by decide +kernel, by decide +kernel⟩
def spPick : Sp := fun vs H Q _ => ∃ (d g c : Addr) (T : Nat) (l : Addr) (xs : List V), vs = [.ref d, .ref l] ∧ Stt H d g c T ∧ H l = some (.lst xs) ∧ l ≠ g ∧ 0 < xs.length ∧ xs.length ≤ 1000 ∧ T < topT ∧ ∀ (i : Nat) (x : V) (H' : Hp), xs[i]? = some x → Ch d g H H' → Stt H' d g c (T + 1) → Q x H'
section
variable {P : Program} {w : World} {K : PySem.W.Frag} {mg : Str → Option Value} {base : Heap}
theorem ok_pick {f : Addr} {fd : FuncData} (F : Fun K "_law_pick" "_law_pick" s_law_pick f fd) (n_len : mg "len" = none) (D_law_draw : Df P w K mg base "_law_draw" 2 ["state", "size_here"] spDraw) : FnOk P w K mg base CX0 3 f fd ["state", "several"] spPick := by
  refine F.ok sc_law_pick (fun vs H Q E h => ?_) (fun cdv A outer s H vs Q E hr h => ?_)
  · obtain ⟨d, g, c, T, l, xs, rfl, _⟩ := h; rfl
  · obtain ⟨d, g, c, T, l, xs, rfl, S, hl, lg, l0, l1, hT, k⟩ := h
    obtain ⟨kv, hd⟩ := S.d
    have ld : l ≠ d := ne_of hl hd (by intro z; cases z)
    refine ⟨_, (pss_one (ps_ret (pe_ix ix_seq (pv 1) (pe_df D_law_draw hr (by omega) (pa_cons (pv 0) (pa_cons (pe_callB uLen (by rfl) n_len (by decide +kernel) (pa_cons (pv 1) pa_nil)) pa_nil))) (fun _ _ => rfl)))), ?_⟩
    refine ⟨_, rfl, _, rfl, _, rfl, _, xs.length, rfl, .inl ⟨xs, SqL.of hl, rfl⟩, d, g, c, T, (xs.length : Int), rfl, S, hT, by omega, by omega, fun r H' C S' r0 r1 => ?_⟩
    obtain ⟨j, rfl⟩ : ∃ j : Nat, r = j := ⟨r.toNat, by omega⟩
    have hj : j < xs.length := by omega
    exact .inl ⟨l, xs, j, xs[j], rfl, rfl, SqL.of (C l _ ld lg hl), atI_nat (by simp [hj]), k j _ H' (by simp [hj]) C S'⟩
/-- one of some written texts -/
theorem pick_str {xs : List Str} {i : Nat} {x : V} (h : (xs.map V.str)[i]? = some x) : ∃ m ∈ xs, x = .str m := by
  rw [List.getElem?_map] at h
  cases e : xs[i]? with
  | none => rw [e] at h; cases h
  | some m => rw [e] at h; exact ⟨m, List.mem_of_getElem? e, (Option.some.inj h).symm⟩

end
end RS

/-! Ini: the own __init__ of the classes with attributes. Printed by inigen.py. -/
namespace RS
open PySem PySem.Spec PyProof.Rows L2 NdefX
/-- self, n things: kept as the fields -/
structure rIni (C : Addr) (fs : List V → List (Str × V)) (n : Nat) (vs : List V) (H : Hp) (Q : VK) : Prop where
  ex : ∃ (a : Addr) (ws : List V), vs = .ref a :: ws ∧ ws.length = n ∧ H a = some (exo a C none) ∧ ∀ d H', H d = none → d ≠ a → H' a = some (exo a C (some d)) → H' d = some (exd d (fs ws)) → (∀ b o, b ≠ a → H b = some o → H' b = some o) → Q .non H'
def spIni (C : Addr) (fs : List V → List (Str × V)) (n : Nat) : Sp := fun vs H Q _ => rIni C fs n vs H Q
def fs1 (f : Str) : List V → List (Str × V) := fun ws => match ws with | [v] => [(f, v)] | _ => []
def fs2 (f g : Str) : List V → List (Str × V) := fun ws => match ws with | [v, w] => [(g, w), (f, v)] | _ => []
section
variable {P : Program} {w : World} {K : PySem.W.Frag} {mg : Str → Option Value} {base : Heap}
theorem oki_BadLines {C f cc cda : Addr} {qual : Str} {fd : FuncData} (I0 : IniAt P K mg C f cc cda qual (iniS 10) fd) (no0 : PySem.W.findIn K (.ref C) "index" = some none) :
    FnOk P w K mg base CX0 1 f fd ["self", "index"] (spIni C (fs1 "index") 1) := by
  have S : NScope ["self", "index", "__class__"] ["self", "index"] ["__class__"] (C8.fnScope (iniS 10)) := nscope_by (by decide +kernel)
  have nd := S.nd
  refine ok_initS I0 S rfl (by decide +kernel) rfl rfl (fun _ => rfl) (fun _ => rfl) rfl (by decide) (fun vs H Q E h => ?_) (fun F A outer s H vs Q E hF hr h => ?_)
  · obtain ⟨a, ws, rfl, h, _⟩ := h.ex; simp [h]
  · obtain ⟨a, ws, rfl, hl, ha, k⟩ := h.ex
    match ws, hl with
    | [v], _ =>
    subst hF
    refine ⟨a, rfl, ha, _, pss_one (ps_ost (pv 0) (pv 1)), ?_⟩
    refine ⟨_, rfl, _, rfl, a, C, rfl, I0.sup.oex, no0, .inl ⟨ha, fun d hd ne => ?_⟩⟩
    refine k d _ hd ne upd_same ?_ (fun b o hb e => ?_)
    · rw [upd_ne ne, upd_same]; rfl
    · rw [upd_ne hb, upd_ne (ne_of_none e hd)]; exact e
theorem mkx_BadLines {C f cc cda : Addr} {qual : Str} {fd : FuncData} (I0 : IniAt P K mg C f cc cda qual (iniS 10) fd) (no0 : PySem.W.findIn K (.ref C) "index" = some none) (iC : PySem.W.findIn K (.ref C) "__init__" = some (some (.ref f))) (tI : PySem.W.typeIn K (.ref f) = some (.type "function")) (m : mg "BadLines" = some (.ref C)) :
    MkX P w K mg base "BadLines" C 1 ["self", "index"] (spIni C (fs1 "index") 1) ["index"] [0] := by
  have O := oki_BadLines (P := P) (w := w) (mg := mg) (base := base) I0 no0
  obtain ⟨oc, od, kV, doc, pm, ct, an, osl, rfl, lk⟩ := I0.ex
  exact ⟨I0.sup.oex, ⟨f, _, iC, tI, O, .all fun us hl => match us, hl with | [_, _], _ => rfl, fun s e ws _ hl => match ws, hl with | [_], _ => .of_eq rfl⟩, m⟩
theorem oki_BadText {C f cc cda : Addr} {qual : Str} {fd : FuncData} (I0 : IniAt P K mg C f cc cda qual (iniS 24) fd) (no0 : PySem.W.findIn K (.ref C) "at" = some none) :
    FnOk P w K mg base CX0 1 f fd ["self", "at"] (spIni C (fs1 "at") 1) := by
  have S : NScope ["self", "at", "__class__"] ["self", "at"] ["__class__"] (C8.fnScope (iniS 24)) := nscope_by (by decide +kernel)
  have nd := S.nd
  refine ok_initS I0 S rfl (by decide +kernel) rfl rfl (fun _ => rfl) (fun _ => rfl) rfl (by decide) (fun vs H Q E h => ?_) (fun F A outer s H vs Q E hF hr h => ?_)
  · obtain ⟨a, ws, rfl, h, _⟩ := h.ex; simp [h]
  · obtain ⟨a, ws, rfl, hl, ha, k⟩ := h.ex
    match ws, hl with
    | [v], _ =>
    subst hF
    refine ⟨a, rfl, ha, _, pss_one (ps_ost (pv 0) (pv 1)), ?_⟩
    refine ⟨_, rfl, _, rfl, a, C, rfl, I0.sup.oex, no0, .inl ⟨ha, fun d hd ne => ?_⟩⟩
    refine k d _ hd ne upd_same ?_ (fun b o hb e => ?_)
    · rw [upd_ne ne, upd_same]; rfl
    · rw [upd_ne hb, upd_ne (ne_of_none e hd)]; exact e
theorem mkx_BadText {C f cc cda : Addr} {qual : Str} {fd : FuncData} (I0 : IniAt P K mg C f cc cda qual (iniS 24) fd) (no0 : PySem.W.findIn K (.ref C) "at" = some none) (iC : PySem.W.findIn K (.ref C) "__init__" = some (some (.ref f))) (tI : PySem.W.typeIn K (.ref f) = some (.type "function")) (m : mg "BadText" = some (.ref C)) :
    MkX P w K mg base "BadText" C 1 ["self", "at"] (spIni C (fs1 "at") 1) ["at"] [0] := by
  have O := oki_BadText (P := P) (w := w) (mg := mg) (base := base) I0 no0
  obtain ⟨oc, od, kV, doc, pm, ct, an, osl, rfl, lk⟩ := I0.ex
  exact ⟨I0.sup.oex, ⟨f, _, iC, tI, O, .all fun us hl => match us, hl with | [_, _], _ => rfl, fun s e ws _ hl => match ws, hl with | [_], _ => .of_eq rfl⟩, m⟩
theorem oki_BadTexts {C f cc cda : Addr} {qual : Str} {fd : FuncData} (I0 : IniAt P K mg C f cc cda qual (iniS 25) fd) (no0 : PySem.W.findIn K (.ref C) "index" = some none) :
    FnOk P w K mg base CX0 1 f fd ["self", "index"] (spIni C (fs1 "index") 1) := by
  have S : NScope ["self", "index", "__class__"] ["self", "index"] ["__class__"] (C8.fnScope (iniS 25)) := nscope_by (by decide +kernel)
  have nd := S.nd
  refine ok_initS I0 S rfl (by decide +kernel) rfl rfl (fun _ => rfl) (fun _ => rfl) rfl (by decide) (fun vs H Q E h => ?_) (fun F A outer s H vs Q E hF hr h => ?_)
  · obtain ⟨a, ws, rfl, h, _⟩ := h.ex; simp [h]
  · obtain ⟨a, ws, rfl, hl, ha, k⟩ := h.ex
    match ws, hl with
    | [v], _ =>
    subst hF
    refine ⟨a, rfl, ha, _, pss_one (ps_ost (pv 0) (pv 1)), ?_⟩
    refine ⟨_, rfl, _, rfl, a, C, rfl, I0.sup.oex, no0, .inl ⟨ha, fun d hd ne => ?_⟩⟩
    refine k d _ hd ne upd_same ?_ (fun b o hb e => ?_)
    · rw [upd_ne ne, upd_same]; rfl
    · rw [upd_ne hb, upd_ne (ne_of_none e hd)]; exact e
theorem mkx_BadTexts {C f cc cda : Addr} {qual : Str} {fd : FuncData} (I0 : IniAt P K mg C f cc cda qual (iniS 25) fd) (no0 : PySem.W.findIn K (.ref C) "index" = some none) (iC : PySem.W.findIn K (.ref C) "__init__" = some (some (.ref f))) (tI : PySem.W.typeIn K (.ref f) = some (.type "function")) (m : mg "BadTexts" = some (.ref C)) :
    MkX P w K mg base "BadTexts" C 1 ["self", "index"] (spIni C (fs1 "index") 1) ["index"] [0] := by
  have O := oki_BadTexts (P := P) (w := w) (mg := mg) (base := base) I0 no0
  obtain ⟨oc, od, kV, doc, pm, ct, an, osl, rfl, lk⟩ := I0.ex
  exact ⟨I0.sup.oex, ⟨f, _, iC, tI, O, .all fun us hl => match us, hl with | [_, _], _ => rfl, fun s e ws _ hl => match ws, hl with | [_], _ => .of_eq rfl⟩, m⟩
theorem oki_Bent {C f cc cda : Addr} {qual : Str} {fd : FuncData} (I0 : IniAt P K mg C f cc cda qual (iniS 31) fd) (no0 : PySem.W.findIn K (.ref C) "line" = some none) :
    FnOk P w K mg base CX0 1 f fd ["self", "line"] (spIni C (fs1 "line") 1) := by
  have S : NScope ["self", "line", "__class__"] ["self", "line"] ["__class__"] (C8.fnScope (iniS 31)) := nscope_by (by decide +kernel)
  have nd := S.nd
  refine ok_initS I0 S rfl (by decide +kernel) rfl rfl (fun _ => rfl) (fun _ => rfl) rfl (by decide) (fun vs H Q E h => ?_) (fun F A outer s H vs Q E hF hr h => ?_)
  · obtain ⟨a, ws, rfl, h, _⟩ := h.ex; simp [h]
  · obtain ⟨a, ws, rfl, hl, ha, k⟩ := h.ex
    match ws, hl with
    | [v], _ =>
    subst hF
    refine ⟨a, rfl, ha, _, pss_one (ps_ost (pv 0) (pv 1)), ?_⟩
    refine ⟨_, rfl, _, rfl, a, C, rfl, I0.sup.oex, no0, .inl ⟨ha, fun d hd ne => ?_⟩⟩
    refine k d _ hd ne upd_same ?_ (fun b o hb e => ?_)
    · rw [upd_ne ne, upd_same]; rfl
    · rw [upd_ne hb, upd_ne (ne_of_none e hd)]; exact e
theorem mkx_Bent {C f cc cda : Addr} {qual : Str} {fd : FuncData} (I0 : IniAt P K mg C f cc cda qual (iniS 31) fd) (no0 : PySem.W.findIn K (.ref C) "line" = some none) (iC : PySem.W.findIn K (.ref C) "__init__" = some (some (.ref f))) (tI : PySem.W.typeIn K (.ref f) = some (.type "function")) (m : mg "Bent" = some (.ref C)) :
    MkX P w K mg base "Bent" C 1 ["self", "line"] (spIni C (fs1 "line") 1) ["line"] [0] := by
  have O := oki_Bent (P := P) (w := w) (mg := mg) (base := base) I0 no0
  obtain ⟨oc, od, kV, doc, pm, ct, an, osl, rfl, lk⟩ := I0.ex
  exact ⟨I0.sup.oex, ⟨f, _, iC, tI, O, .all fun us hl => match us, hl with | [_, _], _ => rfl, fun s e ws _ hl => match ws, hl with | [_], _ => .of_eq rfl⟩, m⟩
theorem oki_Lacking {C f cc cda : Addr} {qual : Str} {fd : FuncData} (I0 : IniAt P K mg C f cc cda qual (iniS 32) fd) (no0 : PySem.W.findIn K (.ref C) "name" = some none) :
    FnOk P w K mg base CX0 1 f fd ["self", "name"] (spIni C (fs1 "name") 1) := by
  have S : NScope ["self", "name", "__class__"] ["self", "name"] ["__class__"] (C8.fnScope (iniS 32)) := nscope_by (by decide +kernel)
  have nd := S.nd
  refine ok_initS I0 S rfl (by decide +kernel) rfl rfl (fun _ => rfl) (fun _ => rfl) rfl (by decide) (fun vs H Q E h => ?_) (fun F A outer s H vs Q E hF hr h => ?_)
  · obtain ⟨a, ws, rfl, h, _⟩ := h.ex; simp [h]
  · obtain ⟨a, ws, rfl, hl, ha, k⟩ := h.ex
    match ws, hl with
    | [v], _ =>
    subst hF
    refine ⟨a, rfl, ha, _, pss_one (ps_ost (pv 0) (pv 1)), ?_⟩
    refine ⟨_, rfl, _, rfl, a, C, rfl, I0.sup.oex, no0, .inl ⟨ha, fun d hd ne => ?_⟩⟩
    refine k d _ hd ne upd_same ?_ (fun b o hb e => ?_)
    · rw [upd_ne ne, upd_same]; rfl
    · rw [upd_ne hb, upd_ne (ne_of_none e hd)]; exact e
theorem mkx_Lacking {C f cc cda : Addr} {qual : Str} {fd : FuncData} (I0 : IniAt P K mg C f cc cda qual (iniS 32) fd) (no0 : PySem.W.findIn K (.ref C) "name" = some none) (iC : PySem.W.findIn K (.ref C) "__init__" = some (some (.ref f))) (tI : PySem.W.typeIn K (.ref f) = some (.type "function")) (m : mg "Lacking" = some (.ref C)) :
    MkX P w K mg base "Lacking" C 1 ["self", "name"] (spIni C (fs1 "name") 1) ["name"] [0] := by
  have O := oki_Lacking (P := P) (w := w) (mg := mg) (base := base) I0 no0
  obtain ⟨oc, od, kV, doc, pm, ct, an, osl, rfl, lk⟩ := I0.ex
  exact ⟨I0.sup.oex, ⟨f, _, iC, tI, O, .all fun us hl => match us, hl with | [_, _], _ => rfl, fun s e ws _ hl => match ws, hl with | [_], _ => .of_eq rfl⟩, m⟩
theorem oki_NameTwice {C f cc cda : Addr} {qual : Str} {fd : FuncData} (I0 : IniAt P K mg C f cc cda qual (iniS 33) fd) (no0 : PySem.W.findIn K (.ref C) "name" = some none) :
    FnOk P w K mg base CX0 1 f fd ["self", "name"] (spIni C (fs1 "name") 1) := by
  have S : NScope ["self", "name", "__class__"] ["self", "name"] ["__class__"] (C8.fnScope (iniS 33)) := nscope_by (by decide +kernel)
  have nd := S.nd
  refine ok_initS I0 S rfl (by decide +kernel) rfl rfl (fun _ => rfl) (fun _ => rfl) rfl (by decide) (fun vs H Q E h => ?_) (fun F A outer s H vs Q E hF hr h => ?_)
  · obtain ⟨a, ws, rfl, h, _⟩ := h.ex; simp [h]
  · obtain ⟨a, ws, rfl, hl, ha, k⟩ := h.ex
    match ws, hl with
    | [v], _ =>
    subst hF
    refine ⟨a, rfl, ha, _, pss_one (ps_ost (pv 0) (pv 1)), ?_⟩
    refine ⟨_, rfl, _, rfl, a, C, rfl, I0.sup.oex, no0, .inl ⟨ha, fun d hd ne => ?_⟩⟩
    refine k d _ hd ne upd_same ?_ (fun b o hb e => ?_)
    · rw [upd_ne ne, upd_same]; rfl
    · rw [upd_ne hb, upd_ne (ne_of_none e hd)]; exact e
theorem mkx_NameTwice {C f cc cda : Addr} {qual : Str} {fd : FuncData} (I0 : IniAt P K mg C f cc cda qual (iniS 33) fd) (no0 : PySem.W.findIn K (.ref C) "name" = some none) (iC : PySem.W.findIn K (.ref C) "__init__" = some (some (.ref f))) (tI : PySem.W.typeIn K (.ref f) = some (.type "function")) (m : mg "NameTwice" = some (.ref C)) :
    MkX P w K mg base "NameTwice" C 1 ["self", "name"] (spIni C (fs1 "name") 1) ["name"] [0] := by
  have O := oki_NameTwice (P := P) (w := w) (mg := mg) (base := base) I0 no0
  obtain ⟨oc, od, kV, doc, pm, ct, an, osl, rfl, lk⟩ := I0.ex
  exact ⟨I0.sup.oex, ⟨f, _, iC, tI, O, .all fun us hl => match us, hl with | [_, _], _ => rfl, fun s e ws _ hl => match ws, hl with | [_], _ => .of_eq rfl⟩, m⟩
theorem oki_NotTaken {C f cc cda : Addr} {qual : Str} {fd : FuncData} (I0 : IniAt P K mg C f cc cda qual (iniS 36) fd) (no0 : PySem.W.findIn K (.ref C) "name" = some none) :
    FnOk P w K mg base CX0 1 f fd ["self", "name"] (spIni C (fs1 "name") 1) := by
  have S : NScope ["self", "name", "__class__"] ["self", "name"] ["__class__"] (C8.fnScope (iniS 36)) := nscope_by (by decide +kernel)
  have nd := S.nd
  refine ok_initS I0 S rfl (by decide +kernel) rfl rfl (fun _ => rfl) (fun _ => rfl) rfl (by decide) (fun vs H Q E h => ?_) (fun F A outer s H vs Q E hF hr h => ?_)
  · obtain ⟨a, ws, rfl, h, _⟩ := h.ex; simp [h]
  · obtain ⟨a, ws, rfl, hl, ha, k⟩ := h.ex
    match ws, hl with
    | [v], _ =>
    subst hF
    refine ⟨a, rfl, ha, _, pss_one (ps_ost (pv 0) (pv 1)), ?_⟩
    refine ⟨_, rfl, _, rfl, a, C, rfl, I0.sup.oex, no0, .inl ⟨ha, fun d hd ne => ?_⟩⟩
    refine k d _ hd ne upd_same ?_ (fun b o hb e => ?_)
    · rw [upd_ne ne, upd_same]; rfl
    · rw [upd_ne hb, upd_ne (ne_of_none e hd)]; exact e
theorem mkx_NotTaken {C f cc cda : Addr} {qual : Str} {fd : FuncData} (I0 : IniAt P K mg C f cc cda qual (iniS 36) fd) (no0 : PySem.W.findIn K (.ref C) "name" = some none) (iC : PySem.W.findIn K (.ref C) "__init__" = some (some (.ref f))) (tI : PySem.W.typeIn K (.ref f) = some (.type "function")) (m : mg "NotTaken" = some (.ref C)) :
    MkX P w K mg base "NotTaken" C 1 ["self", "name"] (spIni C (fs1 "name") 1) ["name"] [0] := by
  have O := oki_NotTaken (P := P) (w := w) (mg := mg) (base := base) I0 no0
  obtain ⟨oc, od, kV, doc, pm, ct, an, osl, rfl, lk⟩ := I0.ex
  exact ⟨I0.sup.oex, ⟨f, _, iC, tI, O, .all fun us hl => match us, hl with | [_, _], _ => rfl, fun s e ws _ hl => match ws, hl with | [_], _ => .of_eq rfl⟩, m⟩
theorem oki_OtherCode {C f cc cda : Addr} {qual : Str} {fd : FuncData} (I0 : IniAt P K mg C f cc cda qual (iniS 39) fd) (no0 : PySem.W.findIn K (.ref C) "own" = some none) :
    FnOk P w K mg base CX0 1 f fd ["self", "own"] (spIni C (fs1 "own") 1) := by
  have S : NScope ["self", "own", "__class__"] ["self", "own"] ["__class__"] (C8.fnScope (iniS 39)) := nscope_by (by decide +kernel)
  have nd := S.nd
  refine ok_initS I0 S rfl (by decide +kernel) rfl rfl (fun _ => rfl) (fun _ => rfl) rfl (by decide) (fun vs H Q E h => ?_) (fun F A outer s H vs Q E hF hr h => ?_)
  · obtain ⟨a, ws, rfl, h, _⟩ := h.ex; simp [h]
  · obtain ⟨a, ws, rfl, hl, ha, k⟩ := h.ex
    match ws, hl with
    | [v], _ =>
    subst hF
    refine ⟨a, rfl, ha, _, pss_one (ps_ost (pv 0) (pv 1)), ?_⟩
    refine ⟨_, rfl, _, rfl, a, C, rfl, I0.sup.oex, no0, .inl ⟨ha, fun d hd ne => ?_⟩⟩
    refine k d _ hd ne upd_same ?_ (fun b o hb e => ?_)
    · rw [upd_ne ne, upd_same]; rfl
    · rw [upd_ne hb, upd_ne (ne_of_none e hd)]; exact e
theorem mkx_OtherCode {C f cc cda : Addr} {qual : Str} {fd : FuncData} (I0 : IniAt P K mg C f cc cda qual (iniS 39) fd) (no0 : PySem.W.findIn K (.ref C) "own" = some none) (iC : PySem.W.findIn K (.ref C) "__init__" = some (some (.ref f))) (tI : PySem.W.typeIn K (.ref f) = some (.type "function")) (m : mg "OtherCode" = some (.ref C)) :
    MkX P w K mg base "OtherCode" C 1 ["self", "own"] (spIni C (fs1 "own") 1) ["own"] [0] := by
  have O := oki_OtherCode (P := P) (w := w) (mg := mg) (base := base) I0 no0
  obtain ⟨oc, od, kV, doc, pm, ct, an, osl, rfl, lk⟩ := I0.ex
  exact ⟨I0.sup.oex, ⟨f, _, iC, tI, O, .all fun us hl => match us, hl with | [_, _], _ => rfl, fun s e ws _ hl => match ws, hl with | [_], _ => .of_eq rfl⟩, m⟩
theorem oki_Refused {C f cc cda : Addr} {qual : Str} {fd : FuncData} (I0 : IniAt P K mg C f cc cda qual (iniS 40) fd) (no0 : PySem.W.findIn K (.ref C) "name" = some none) (no1 : PySem.W.findIn K (.ref C) "word" = some none) :
    FnOk P w K mg base CX0 1 f fd ["self", "name", "word"] (spIni C (fs2 "name" "word") 2) := by
  have S : NScope ["self", "name", "word", "__class__"] ["self", "name", "word"] ["__class__"] (C8.fnScope (iniS 40)) := nscope_by (by decide +kernel)
  have nd := S.nd
  refine ok_initS I0 S rfl (by decide +kernel) rfl rfl (fun _ => rfl) (fun _ => rfl) rfl (by decide) (fun vs H Q E h => ?_) (fun F A outer s H vs Q E hF hr h => ?_)
  · obtain ⟨a, ws, rfl, h, _⟩ := h.ex; simp [h]
  · obtain ⟨a, ws, rfl, hl, ha, k⟩ := h.ex
    match ws, hl with
    | [v, u], _ =>
    subst hF
    refine ⟨a, rfl, ha, _, pss_cons (ps_ost (pv 0) (pv 1)) (pss_one (ps_ost (pv 0) (pv 2))), ?_⟩
    refine ⟨_, rfl, _, rfl, a, C, rfl, I0.sup.oex, no0, .inl ⟨ha, fun d hd ne => ?_⟩⟩
    refine ⟨_, rfl, _, rfl, a, C, rfl, I0.sup.oex, no1, .inr ⟨d, [("name", v)], upd_same, ?_, by show 1 ≤ 900; omega, ?_⟩⟩
    · rw [upd_ne ne, upd_same]
    refine k d _ hd ne ?_ ?_ (fun b o hb e => ?_)
    · rw [upd_ne ne.symm, upd_same]
    · rw [upd_same]; rfl
    · rw [upd_ne (ne_of_none e hd), upd_ne hb, upd_ne (ne_of_none e hd)]; exact e
theorem mkx_Refused {C f cc cda : Addr} {qual : Str} {fd : FuncData} (I0 : IniAt P K mg C f cc cda qual (iniS 40) fd) (no0 : PySem.W.findIn K (.ref C) "name" = some none) (no1 : PySem.W.findIn K (.ref C) "word" = some none) (iC : PySem.W.findIn K (.ref C) "__init__" = some (some (.ref f))) (tI : PySem.W.typeIn K (.ref f) = some (.type "function")) (m : mg "Refused" = some (.ref C)) :
    MkX P w K mg base "Refused" C 1 ["self", "name", "word"] (spIni C (fs2 "name" "word") 2) ["word", "name"] [1, 0] := by
  have O := oki_Refused (P := P) (w := w) (mg := mg) (base := base) I0 no0 no1
  obtain ⟨oc, od, kV, doc, pm, ct, an, osl, rfl, lk⟩ := I0.ex
  exact ⟨I0.sup.oex, ⟨f, _, iC, tI, O, .all fun us hl => match us, hl with | [_, _, _], _ => rfl, fun s e ws _ hl => match ws, hl with | [_, _], _ => .of_eq rfl⟩, m⟩
theorem oki_Ring {C f cc cda : Addr} {qual : Str} {fd : FuncData} (I0 : IniAt P K mg C f cc cda qual (iniS 41) fd) (no0 : PySem.W.findIn K (.ref C) "module" = some none) :
    FnOk P w K mg base CX0 1 f fd ["self", "module"] (spIni C (fs1 "module") 1) := by
  have S : NScope ["self", "module", "__class__"] ["self", "module"] ["__class__"] (C8.fnScope (iniS 41)) := nscope_by (by decide +kernel)
  have nd := S.nd
  refine ok_initS I0 S rfl (by decide +kernel) rfl rfl (fun _ => rfl) (fun _ => rfl) rfl (by decide) (fun vs H Q E h => ?_) (fun F A outer s H vs Q E hF hr h => ?_)
  · obtain ⟨a, ws, rfl, h, _⟩ := h.ex; simp [h]
  · obtain ⟨a, ws, rfl, hl, ha, k⟩ := h.ex
    match ws, hl with
    | [v], _ =>
    subst hF
    refine ⟨a, rfl, ha, _, pss_one (ps_ost (pv 0) (pv 1)), ?_⟩
    refine ⟨_, rfl, _, rfl, a, C, rfl, I0.sup.oex, no0, .inl ⟨ha, fun d hd ne => ?_⟩⟩
    refine k d _ hd ne upd_same ?_ (fun b o hb e => ?_)
    · rw [upd_ne ne, upd_same]; rfl
    · rw [upd_ne hb, upd_ne (ne_of_none e hd)]; exact e
theorem mkx_Ring {C f cc cda : Addr} {qual : Str} {fd : FuncData} (I0 : IniAt P K mg C f cc cda qual (iniS 41) fd) (no0 : PySem.W.findIn K (.ref C) "module" = some none) (iC : PySem.W.findIn K (.ref C) "__init__" = some (some (.ref f))) (tI : PySem.W.typeIn K (.ref f) = some (.type "function")) (m : mg "Ring" = some (.ref C)) :
    MkX P w K mg base "Ring" C 1 ["self", "module"] (spIni C (fs1 "module") 1) ["module"] [0] := by
  have O := oki_Ring (P := P) (w := w) (mg := mg) (base := base) I0 no0
  obtain ⟨oc, od, kV, doc, pm, ct, an, osl, rfl, lk⟩ := I0.ex
  exact ⟨I0.sup.oex, ⟨f, _, iC, tI, O, .all fun us hl => match us, hl with | [_, _], _ => rfl, fun s e ws _ hl => match ws, hl with | [_], _ => .of_eq rfl⟩, m⟩
theorem oki_TooMany {C f cc cda : Addr} {qual : Str} {fd : FuncData} (I0 : IniAt P K mg C f cc cda qual (iniS 43) fd) (no0 : PySem.W.findIn K (.ref C) "most" = some none) :
    FnOk P w K mg base CX0 1 f fd ["self", "most"] (spIni C (fs1 "most") 1) := by
  have S : NScope ["self", "most", "__class__"] ["self", "most"] ["__class__"] (C8.fnScope (iniS 43)) := nscope_by (by decide +kernel)
  have nd := S.nd
  refine ok_initS I0 S rfl (by decide +kernel) rfl rfl (fun _ => rfl) (fun _ => rfl) rfl (by decide) (fun vs H Q E h => ?_) (fun F A outer s H vs Q E hF hr h => ?_)
  · obtain ⟨a, ws, rfl, h, _⟩ := h.ex; simp [h]
  · obtain ⟨a, ws, rfl, hl, ha, k⟩ := h.ex
    match ws, hl with
    | [v], _ =>
    subst hF
    refine ⟨a, rfl, ha, _, pss_one (ps_ost (pv 0) (pv 1)), ?_⟩
    refine ⟨_, rfl, _, rfl, a, C, rfl, I0.sup.oex, no0, .inl ⟨ha, fun d hd ne => ?_⟩⟩
    refine k d _ hd ne upd_same ?_ (fun b o hb e => ?_)
    · rw [upd_ne ne, upd_same]; rfl
    · rw [upd_ne hb, upd_ne (ne_of_none e hd)]; exact e
theorem mkx_TooMany {C f cc cda : Addr} {qual : Str} {fd : FuncData} (I0 : IniAt P K mg C f cc cda qual (iniS 43) fd) (no0 : PySem.W.findIn K (.ref C) "most" = some none) (iC : PySem.W.findIn K (.ref C) "__init__" = some (some (.ref f))) (tI : PySem.W.typeIn K (.ref f) = some (.type "function")) (m : mg "TooMany" = some (.ref C)) :
    MkX P w K mg base "TooMany" C 1 ["self", "most"] (spIni C (fs1 "most") 1) ["most"] [0] := by
  have O := oki_TooMany (P := P) (w := w) (mg := mg) (base := base) I0 no0
  obtain ⟨oc, od, kV, doc, pm, ct, an, osl, rfl, lk⟩ := I0.ex
  exact ⟨I0.sup.oex, ⟨f, _, iC, tI, O, .all fun us hl => match us, hl with | [_, _], _ => rfl, fun s e ws _ hl => match ws, hl with | [_], _ => .of_eq rfl⟩, m⟩
theorem oki_TooSmall {C f cc cda : Addr} {qual : Str} {fd : FuncData} (I0 : IniAt P K mg C f cc cda qual (iniS 44) fd) (no0 : PySem.W.findIn K (.ref C) "least" = some none) :
    FnOk P w K mg base CX0 1 f fd ["self", "least"] (spIni C (fs1 "least") 1) := by
  have S : NScope ["self", "least", "__class__"] ["self", "least"] ["__class__"] (C8.fnScope (iniS 44)) := nscope_by (by decide +kernel)
  have nd := S.nd
  refine ok_initS I0 S rfl (by decide +kernel) rfl rfl (fun _ => rfl) (fun _ => rfl) rfl (by decide) (fun vs H Q E h => ?_) (fun F A outer s H vs Q E hF hr h => ?_)
  · obtain ⟨a, ws, rfl, h, _⟩ := h.ex; simp [h]
  · obtain ⟨a, ws, rfl, hl, ha, k⟩ := h.ex
    match ws, hl with
    | [v], _ =>
    subst hF
    refine ⟨a, rfl, ha, _, pss_one (ps_ost (pv 0) (pv 1)), ?_⟩
    refine ⟨_, rfl, _, rfl, a, C, rfl, I0.sup.oex, no0, .inl ⟨ha, fun d hd ne => ?_⟩⟩
    refine k d _ hd ne upd_same ?_ (fun b o hb e => ?_)
    · rw [upd_ne ne, upd_same]; rfl
    · rw [upd_ne hb, upd_ne (ne_of_none e hd)]; exact e
theorem mkx_TooSmall {C f cc cda : Addr} {qual : Str} {fd : FuncData} (I0 : IniAt P K mg C f cc cda qual (iniS 44) fd) (no0 : PySem.W.findIn K (.ref C) "least" = some none) (iC : PySem.W.findIn K (.ref C) "__init__" = some (some (.ref f))) (tI : PySem.W.typeIn K (.ref f) = some (.type "function")) (m : mg "TooSmall" = some (.ref C)) :
    MkX P w K mg base "TooSmall" C 1 ["self", "least"] (spIni C (fs1 "least") 1) ["least"] [0] := by
  have O := oki_TooSmall (P := P) (w := w) (mg := mg) (base := base) I0 no0
  obtain ⟨oc, od, kV, doc, pm, ct, an, osl, rfl, lk⟩ := I0.ex
  exact ⟨I0.sup.oex, ⟨f, _, iC, tI, O, .all fun us hl => match us, hl with | [_, _], _ => rfl, fun s e ws _ hl => match ws, hl with | [_], _ => .of_eq rfl⟩, m⟩
theorem oki_Unlike {C f cc cda : Addr} {qual : Str} {fd : FuncData} (I0 : IniAt P K mg C f cc cda qual (iniS 45) fd) (no0 : PySem.W.findIn K (.ref C) "name" = some none) :
    FnOk P w K mg base CX0 1 f fd ["self", "name"] (spIni C (fs1 "name") 1) := by
  have S : NScope ["self", "name", "__class__"] ["self", "name"] ["__class__"] (C8.fnScope (iniS 45)) := nscope_by (by decide +kernel)
  have nd := S.nd
  refine ok_initS I0 S rfl (by decide +kernel) rfl rfl (fun _ => rfl) (fun _ => rfl) rfl (by decide) (fun vs H Q E h => ?_) (fun F A outer s H vs Q E hF hr h => ?_)
  · obtain ⟨a, ws, rfl, h, _⟩ := h.ex; simp [h]
  · obtain ⟨a, ws, rfl, hl, ha, k⟩ := h.ex
    match ws, hl with
    | [v], _ =>
    subst hF
    refine ⟨a, rfl, ha, _, pss_one (ps_ost (pv 0) (pv 1)), ?_⟩
    refine ⟨_, rfl, _, rfl, a, C, rfl, I0.sup.oex, no0, .inl ⟨ha, fun d hd ne => ?_⟩⟩
    refine k d _ hd ne upd_same ?_ (fun b o hb e => ?_)
    · rw [upd_ne ne, upd_same]; rfl
    · rw [upd_ne hb, upd_ne (ne_of_none e hd)]; exact e
theorem mkx_Unlike {C f cc cda : Addr} {qual : Str} {fd : FuncData} (I0 : IniAt P K mg C f cc cda qual (iniS 45) fd) (no0 : PySem.W.findIn K (.ref C) "name" = some none) (iC : PySem.W.findIn K (.ref C) "__init__" = some (some (.ref f))) (tI : PySem.W.typeIn K (.ref f) = some (.type "function")) (m : mg "Unlike" = some (.ref C)) :
    MkX P w K mg base "Unlike" C 1 ["self", "name"] (spIni C (fs1 "name") 1) ["name"] [0] := by
  have O := oki_Unlike (P := P) (w := w) (mg := mg) (base := base) I0 no0
  obtain ⟨oc, od, kV, doc, pm, ct, an, osl, rfl, lk⟩ := I0.ex
  exact ⟨I0.sup.oex, ⟨f, _, iC, tI, O, .all fun us hl => match us, hl with | [_, _], _ => rfl, fun s e ws _ hl => match ws, hl with | [_], _ => .of_eq rfl⟩, m⟩
theorem oki_Untyped {C f cc cda : Addr} {qual : Str} {fd : FuncData} (I0 : IniAt P K mg C f cc cda qual (iniS 46) fd) (no0 : PySem.W.findIn K (.ref C) "word" = some none) :
    FnOk P w K mg base CX0 1 f fd ["self", "word"] (spIni C (fs1 "word") 1) := by
  have S : NScope ["self", "word", "__class__"] ["self", "word"] ["__class__"] (C8.fnScope (iniS 46)) := nscope_by (by decide +kernel)
  have nd := S.nd
  refine ok_initS I0 S rfl (by decide +kernel) rfl rfl (fun _ => rfl) (fun _ => rfl) rfl (by decide) (fun vs H Q E h => ?_) (fun F A outer s H vs Q E hF hr h => ?_)
  · obtain ⟨a, ws, rfl, h, _⟩ := h.ex; simp [h]
  · obtain ⟨a, ws, rfl, hl, ha, k⟩ := h.ex
    match ws, hl with
    | [v], _ =>
    subst hF
    refine ⟨a, rfl, ha, _, pss_one (ps_ost (pv 0) (pv 1)), ?_⟩
    refine ⟨_, rfl, _, rfl, a, C, rfl, I0.sup.oex, no0, .inl ⟨ha, fun d hd ne => ?_⟩⟩
    refine k d _ hd ne upd_same ?_ (fun b o hb e => ?_)
    · rw [upd_ne ne, upd_same]; rfl
    · rw [upd_ne hb, upd_ne (ne_of_none e hd)]; exact e
theorem mkx_Untyped {C f cc cda : Addr} {qual : Str} {fd : FuncData} (I0 : IniAt P K mg C f cc cda qual (iniS 46) fd) (no0 : PySem.W.findIn K (.ref C) "word" = some none) (iC : PySem.W.findIn K (.ref C) "__init__" = some (some (.ref f))) (tI : PySem.W.typeIn K (.ref f) = some (.type "function")) (m : mg "Untyped" = some (.ref C)) :
    MkX P w K mg base "Untyped" C 1 ["self", "word"] (spIni C (fs1 "word") 1) ["word"] [0] := by
  have O := oki_Untyped (P := P) (w := w) (mg := mg) (base := base) I0 no0
  obtain ⟨oc, od, kV, doc, pm, ct, an, osl, rfl, lk⟩ := I0.ex
  exact ⟨I0.sup.oex, ⟨f, _, iC, tI, O, .all fun us hl => match us, hl with | [_, _], _ => rfl, fun s e ws _ hl => match ws, hl with | [_], _ => .of_eq rfl⟩, m⟩
end
end RS

/-! Flags: _law_k00_flags. Printed by flgen.py. -/
namespace RS
open PySem PySem.Spec PyProof.Rows L2
theorem ExAt.same {K : PySem.W.Frag} {H H' : Hp} {a : Addr} {t : Value} (e : ExAt K H a t) (s : Same H H') : ExAt K H' a t := by
  cases e with
  | bare k h => exact .bare k (s _ _ h)
  | dict k h hd => exact .dict k (s _ _ h) (s _ _ hd)
  | ve h => exact .ve (s _ _ h)
theorem is1 {K : PySem.W.Frag} {H : Hp} {a C : Addr} {t : Value} {b : Bool} {Q : VK} (e : ExAt K H a t) (k : PySem.W.kitOne K t (.ref C) = some b) (h : Q (.bl b) H) : rIsV K [.ref a, .ref C] H Q := ⟨a, .ref C, t, .ref C, b, rfl, .own C, e, k, h⟩
theorem isVE {K : PySem.W.Frag} {H : Hp} {a : Addr} {t : Value} {b : Bool} {Q : VK} (e : ExAt K H a t) (k : PySem.W.kitOne K t (.type "ValueError") = some b) (h : Q (.bl b) H) : rIsV K [.ref a, .ty "ValueError"] H Q := ⟨a, .ty "ValueError", t, .type "ValueError", b, rfl, .ty _, e, k, h⟩
def flL (fl : Nat → Bool) (n : Nat) : List V := (List.range n).map fun j => .bl (fl j)
structure rFlags (K : PySem.W.Frag) (cs : List Addr) (vs : List V) (H : Hp) (Q : VK) : Prop where
  ex : ∃ (a : Addr) (t : Value) (fl : Nat → Bool), vs = [.ref a] ∧ ExAt K H a t ∧ (∀ j C, cs[j]? = some C → PySem.W.kitOne K t (.ref C) = some (fl j)) ∧ ∀ p H', Same H H' → H' p = some (.lst (flL fl 46)) → Q (.ref p) H'
def spFlags (K : PySem.W.Frag) (cs : List Addr) : Sp := fun vs H Q _ => rFlags K cs vs H Q
theorem fl4 (fl : Nat → Bool) (n : Nat) : flL fl n ++ [.bl (fl n), .bl (fl (n + 1)), .bl (fl (n + 2)), .bl (fl (n + 3))] = flL fl (n + 4) := by
  unfold flL; simp [List.range_succ]
theorem fl2 (fl : Nat → Bool) (n : Nat) : flL fl n ++ [.bl (fl n), .bl (fl (n + 1))] = flL fl (n + 2) := by
  unfold flL; simp [List.range_succ]
theorem flLen (fl : Nat → Bool) (n : Nat) : (flL fl n).length = n := by unfold flL; simp
theorem lst_newS {H : Hp} {xs : List V} {Q : VK} (hz : xs.length ≤ 1000) (k : ∀ p H', Same H H' → H' p = some (.lst xs) → Q (.ref p) H') : rNewL xs H Q := lst_new hz fun p np => k p _ (same_new np) upd_same
theorem add_lS {K : PySem.W.Frag} {l b : Addr} {xs zs ys : List V} {H : Hp} {Q : VK} (h1 : H l = some (.lst xs)) (h2 : H b = some (.lst zs)) (e : xs ++ zs = ys) (hl : xs.length + zs.length ≤ 1000) (k : ∀ p H', Same H H' → H' p = some (.lst ys) → Q (.ref p) H') : rAddU K (.ref l) (.ref b) H Q :=
  add_l h1 h2 (line_of hl) fun p np => k p _ (same_new np) (by rw [upd_same, e])
section
variable {P : Program} {w : World} {K : PySem.W.Frag} {mg : Str → Option Value} {base : Heap}
theorem sc_law_k00_flags : FnScope ["error", "found"] ["error"] (defScope s_law_k00_flags) := ⟨rfl, rfl, rfl, by decide +kernel, rfl, by decide +kernel, by decide +kernel⟩
theorem ok_flags {f C_Astray C_BadBlock C_BadBook C_BadContext C_BadDeclaration C_BadDeed C_BadErased C_BadImage C_BadLines C_BadMaker C_BadModule C_BadMoments C_BadName C_BadNumber C_BadObject C_BadPlace C_BadRule C_BadSeal C_BadSize C_BadState C_BadSurface C_BadTerm C_BadText C_BadTexts C_BadTree C_BadType C_BadUses C_BadWord C_BadWorld C_Bent C_Lacking C_NameTwice C_NotEnded C_NotShown C_NotTaken C_NothingDone C_NothingUndone C_OtherCode C_Refused C_Ring C_Sealed C_TooMany C_TooSmall C_Unlike C_Untyped C_Used : Addr} {fd : FuncData} (F : Fun K "_law_k00_flags" "_law_k00_flags" s_law_k00_flags f fd) (n_isinstance : mg "isinstance" = none)
    (g_Astray : mg "Astray" = some (.ref C_Astray)) (g_BadBlock : mg "BadBlock" = some (.ref C_BadBlock)) (g_BadBook : mg "BadBook" = some (.ref C_BadBook)) (g_BadContext : mg "BadContext" = some (.ref C_BadContext)) (g_BadDeclaration : mg "BadDeclaration" = some (.ref C_BadDeclaration)) (g_BadDeed : mg "BadDeed" = some (.ref C_BadDeed)) (g_BadErased : mg "BadErased" = some (.ref C_BadErased)) (g_BadImage : mg "BadImage" = some (.ref C_BadImage)) (g_BadLines : mg "BadLines" = some (.ref C_BadLines)) (g_BadMaker : mg "BadMaker" = some (.ref C_BadMaker)) (g_BadModule : mg "BadModule" = some (.ref C_BadModule)) (g_BadMoments : mg "BadMoments" = some (.ref C_BadMoments)) (g_BadName : mg "BadName" = some (.ref C_BadName)) (g_BadNumber : mg "BadNumber" = some (.ref C_BadNumber)) (g_BadObject : mg "BadObject" = some (.ref C_BadObject)) (g_BadPlace : mg "BadPlace" = some (.ref C_BadPlace)) (g_BadRule : mg "BadRule" = some (.ref C_BadRule)) (g_BadSeal : mg "BadSeal" = some (.ref C_BadSeal)) (g_BadSize : mg "BadSize" = some (.ref C_BadSize)) (g_BadState : mg "BadState" = some (.ref C_BadState)) (g_BadSurface : mg "BadSurface" = some (.ref C_BadSurface)) (g_BadTerm : mg "BadTerm" = some (.ref C_BadTerm)) (g_BadText : mg "BadText" = some (.ref C_BadText)) (g_BadTexts : mg "BadTexts" = some (.ref C_BadTexts)) (g_BadTree : mg "BadTree" = some (.ref C_BadTree)) (g_BadType : mg "BadType" = some (.ref C_BadType)) (g_BadUses : mg "BadUses" = some (.ref C_BadUses)) (g_BadWord : mg "BadWord" = some (.ref C_BadWord)) (g_BadWorld : mg "BadWorld" = some (.ref C_BadWorld)) (g_Bent : mg "Bent" = some (.ref C_Bent)) (g_Lacking : mg "Lacking" = some (.ref C_Lacking)) (g_NameTwice : mg "NameTwice" = some (.ref C_NameTwice)) (g_NotEnded : mg "NotEnded" = some (.ref C_NotEnded)) (g_NotShown : mg "NotShown" = some (.ref C_NotShown)) (g_NotTaken : mg "NotTaken" = some (.ref C_NotTaken)) (g_NothingDone : mg "NothingDone" = some (.ref C_NothingDone)) (g_NothingUndone : mg "NothingUndone" = some (.ref C_NothingUndone)) (g_OtherCode : mg "OtherCode" = some (.ref C_OtherCode)) (g_Refused : mg "Refused" = some (.ref C_Refused)) (g_Ring : mg "Ring" = some (.ref C_Ring)) (g_Sealed : mg "Sealed" = some (.ref C_Sealed)) (g_TooMany : mg "TooMany" = some (.ref C_TooMany)) (g_TooSmall : mg "TooSmall" = some (.ref C_TooSmall)) (g_Unlike : mg "Unlike" = some (.ref C_Unlike)) (g_Untyped : mg "Untyped" = some (.ref C_Untyped)) (g_Used : mg "Used" = some (.ref C_Used)) :
    FnOk P w K mg base CX0 1 f fd ["error"] (spFlags K [C_Astray, C_BadBlock, C_BadBook, C_BadContext, C_BadDeclaration, C_BadDeed, C_BadErased, C_BadImage, C_BadLines, C_BadMaker, C_BadModule, C_BadMoments, C_BadName, C_BadNumber, C_BadObject, C_BadPlace, C_BadRule, C_BadSeal, C_BadSize, C_BadState, C_BadSurface, C_BadTerm, C_BadText, C_BadTexts, C_BadTree, C_BadType, C_BadUses, C_BadWord, C_BadWorld, C_Bent, C_Lacking, C_NameTwice, C_NotEnded, C_NotShown, C_NotTaken, C_NothingDone, C_NothingUndone, C_OtherCode, C_Refused, C_Ring, C_Sealed, C_TooMany, C_TooSmall, C_Unlike, C_Untyped, C_Used]) := by
  refine F.ok sc_law_k00_flags (fun vs H Q E h => ?_) (fun cdv A outer s H vs Q E hr h => ?_)
  · obtain ⟨a, t, fl, rfl, _⟩ := h.ex; rfl
  · obtain ⟨a, t, fl, rfl, e, k, q⟩ := h.ex
    have nd := sc_law_k00_flags.nd
    refine ⟨_, (pss_cons (ps_set (i := 1) nd rfl (Or.inl rfl) (pe_lstN (pa_cons (pe_callB call_isV (by rfl) n_isinstance (by decide +kernel) (pa_cons (pv 0) (pa_cons (pe_glob (v := .ref _) rfl g_Astray rfl) pa_nil))) (pa_cons (pe_callB call_isV (by rfl) n_isinstance (by decide +kernel) (pa_cons (pv 0) (pa_cons (pe_glob (v := .ref _) rfl g_BadBlock rfl) pa_nil))) (pa_cons (pe_callB call_isV (by rfl) n_isinstance (by decide +kernel) (pa_cons (pv 0) (pa_cons (pe_glob (v := .ref _) rfl g_BadBook rfl) pa_nil))) (pa_cons (pe_callB call_isV (by rfl) n_isinstance (by decide +kernel) (pa_cons (pv 0) (pa_cons (pe_glob (v := .ref _) rfl g_BadContext rfl) pa_nil))) pa_nil))))))
      (pss_cons (ps_set (i := 1) nd rfl (Or.inl rfl) (pe_op uAdd (pv 1) (pe_lstN (pa_cons (pe_callB call_isV (by rfl) n_isinstance (by decide +kernel) (pa_cons (pv 0) (pa_cons (pe_glob (v := .ref _) rfl g_BadDeclaration rfl) pa_nil))) (pa_cons (pe_callB call_isV (by rfl) n_isinstance (by decide +kernel) (pa_cons (pv 0) (pa_cons (pe_glob (v := .ref _) rfl g_BadDeed rfl) pa_nil))) (pa_cons (pe_callB call_isV (by rfl) n_isinstance (by decide +kernel) (pa_cons (pv 0) (pa_cons (pe_glob (v := .ref _) rfl g_BadErased rfl) pa_nil))) (pa_cons (pe_callB call_isV (by rfl) n_isinstance (by decide +kernel) (pa_cons (pv 0) (pa_cons (pe_glob (v := .ref _) rfl g_BadImage rfl) pa_nil))) pa_nil)))))))
      (pss_cons (ps_set (i := 1) nd rfl (Or.inl rfl) (pe_op uAdd (pv 1) (pe_lstN (pa_cons (pe_callB call_isV (by rfl) n_isinstance (by decide +kernel) (pa_cons (pv 0) (pa_cons (pe_glob (v := .ref _) rfl g_BadLines rfl) pa_nil))) (pa_cons (pe_callB call_isV (by rfl) n_isinstance (by decide +kernel) (pa_cons (pv 0) (pa_cons (pe_glob (v := .ref _) rfl g_BadMaker rfl) pa_nil))) (pa_cons (pe_callB call_isV (by rfl) n_isinstance (by decide +kernel) (pa_cons (pv 0) (pa_cons (pe_glob (v := .ref _) rfl g_BadModule rfl) pa_nil))) (pa_cons (pe_callB call_isV (by rfl) n_isinstance (by decide +kernel) (pa_cons (pv 0) (pa_cons (pe_glob (v := .ref _) rfl g_BadMoments rfl) pa_nil))) pa_nil)))))))
      (pss_cons (ps_set (i := 1) nd rfl (Or.inl rfl) (pe_op uAdd (pv 1) (pe_lstN (pa_cons (pe_callB call_isV (by rfl) n_isinstance (by decide +kernel) (pa_cons (pv 0) (pa_cons (pe_glob (v := .ref _) rfl g_BadName rfl) pa_nil))) (pa_cons (pe_callB call_isV (by rfl) n_isinstance (by decide +kernel) (pa_cons (pv 0) (pa_cons (pe_glob (v := .ref _) rfl g_BadNumber rfl) pa_nil))) (pa_cons (pe_callB call_isV (by rfl) n_isinstance (by decide +kernel) (pa_cons (pv 0) (pa_cons (pe_glob (v := .ref _) rfl g_BadObject rfl) pa_nil))) (pa_cons (pe_callB call_isV (by rfl) n_isinstance (by decide +kernel) (pa_cons (pv 0) (pa_cons (pe_glob (v := .ref _) rfl g_BadPlace rfl) pa_nil))) pa_nil)))))))
      (pss_cons (ps_set (i := 1) nd rfl (Or.inl rfl) (pe_op uAdd (pv 1) (pe_lstN (pa_cons (pe_callB call_isV (by rfl) n_isinstance (by decide +kernel) (pa_cons (pv 0) (pa_cons (pe_glob (v := .ref _) rfl g_BadRule rfl) pa_nil))) (pa_cons (pe_callB call_isV (by rfl) n_isinstance (by decide +kernel) (pa_cons (pv 0) (pa_cons (pe_glob (v := .ref _) rfl g_BadSeal rfl) pa_nil))) (pa_cons (pe_callB call_isV (by rfl) n_isinstance (by decide +kernel) (pa_cons (pv 0) (pa_cons (pe_glob (v := .ref _) rfl g_BadSize rfl) pa_nil))) (pa_cons (pe_callB call_isV (by rfl) n_isinstance (by decide +kernel) (pa_cons (pv 0) (pa_cons (pe_glob (v := .ref _) rfl g_BadState rfl) pa_nil))) pa_nil)))))))
      (pss_cons (ps_set (i := 1) nd rfl (Or.inl rfl) (pe_op uAdd (pv 1) (pe_lstN (pa_cons (pe_callB call_isV (by rfl) n_isinstance (by decide +kernel) (pa_cons (pv 0) (pa_cons (pe_glob (v := .ref _) rfl g_BadSurface rfl) pa_nil))) (pa_cons (pe_callB call_isV (by rfl) n_isinstance (by decide +kernel) (pa_cons (pv 0) (pa_cons (pe_glob (v := .ref _) rfl g_BadTerm rfl) pa_nil))) (pa_cons (pe_callB call_isV (by rfl) n_isinstance (by decide +kernel) (pa_cons (pv 0) (pa_cons (pe_glob (v := .ref _) rfl g_BadText rfl) pa_nil))) (pa_cons (pe_callB call_isV (by rfl) n_isinstance (by decide +kernel) (pa_cons (pv 0) (pa_cons (pe_glob (v := .ref _) rfl g_BadTexts rfl) pa_nil))) pa_nil)))))))
      (pss_cons (ps_set (i := 1) nd rfl (Or.inl rfl) (pe_op uAdd (pv 1) (pe_lstN (pa_cons (pe_callB call_isV (by rfl) n_isinstance (by decide +kernel) (pa_cons (pv 0) (pa_cons (pe_glob (v := .ref _) rfl g_BadTree rfl) pa_nil))) (pa_cons (pe_callB call_isV (by rfl) n_isinstance (by decide +kernel) (pa_cons (pv 0) (pa_cons (pe_glob (v := .ref _) rfl g_BadType rfl) pa_nil))) (pa_cons (pe_callB call_isV (by rfl) n_isinstance (by decide +kernel) (pa_cons (pv 0) (pa_cons (pe_glob (v := .ref _) rfl g_BadUses rfl) pa_nil))) (pa_cons (pe_callB call_isV (by rfl) n_isinstance (by decide +kernel) (pa_cons (pv 0) (pa_cons (pe_glob (v := .ref _) rfl g_BadWord rfl) pa_nil))) pa_nil)))))))
      (pss_cons (ps_set (i := 1) nd rfl (Or.inl rfl) (pe_op uAdd (pv 1) (pe_lstN (pa_cons (pe_callB call_isV (by rfl) n_isinstance (by decide +kernel) (pa_cons (pv 0) (pa_cons (pe_glob (v := .ref _) rfl g_BadWorld rfl) pa_nil))) (pa_cons (pe_callB call_isV (by rfl) n_isinstance (by decide +kernel) (pa_cons (pv 0) (pa_cons (pe_glob (v := .ref _) rfl g_Bent rfl) pa_nil))) (pa_cons (pe_callB call_isV (by rfl) n_isinstance (by decide +kernel) (pa_cons (pv 0) (pa_cons (pe_glob (v := .ref _) rfl g_Lacking rfl) pa_nil))) (pa_cons (pe_callB call_isV (by rfl) n_isinstance (by decide +kernel) (pa_cons (pv 0) (pa_cons (pe_glob (v := .ref _) rfl g_NameTwice rfl) pa_nil))) pa_nil)))))))
      (pss_cons (ps_set (i := 1) nd rfl (Or.inl rfl) (pe_op uAdd (pv 1) (pe_lstN (pa_cons (pe_callB call_isV (by rfl) n_isinstance (by decide +kernel) (pa_cons (pv 0) (pa_cons (pe_glob (v := .ref _) rfl g_NotEnded rfl) pa_nil))) (pa_cons (pe_callB call_isV (by rfl) n_isinstance (by decide +kernel) (pa_cons (pv 0) (pa_cons (pe_glob (v := .ref _) rfl g_NotShown rfl) pa_nil))) (pa_cons (pe_callB call_isV (by rfl) n_isinstance (by decide +kernel) (pa_cons (pv 0) (pa_cons (pe_glob (v := .ref _) rfl g_NotTaken rfl) pa_nil))) (pa_cons (pe_callB call_isV (by rfl) n_isinstance (by decide +kernel) (pa_cons (pv 0) (pa_cons (pe_glob (v := .ref _) rfl g_NothingDone rfl) pa_nil))) pa_nil)))))))
      (pss_cons (ps_set (i := 1) nd rfl (Or.inl rfl) (pe_op uAdd (pv 1) (pe_lstN (pa_cons (pe_callB call_isV (by rfl) n_isinstance (by decide +kernel) (pa_cons (pv 0) (pa_cons (pe_glob (v := .ref _) rfl g_NothingUndone rfl) pa_nil))) (pa_cons (pe_callB call_isV (by rfl) n_isinstance (by decide +kernel) (pa_cons (pv 0) (pa_cons (pe_glob (v := .ref _) rfl g_OtherCode rfl) pa_nil))) (pa_cons (pe_callB call_isV (by rfl) n_isinstance (by decide +kernel) (pa_cons (pv 0) (pa_cons (pe_glob (v := .ref _) rfl g_Refused rfl) pa_nil))) (pa_cons (pe_callB call_isV (by rfl) n_isinstance (by decide +kernel) (pa_cons (pv 0) (pa_cons (pe_glob (v := .ref _) rfl g_Ring rfl) pa_nil))) pa_nil)))))))
      (pss_cons (ps_set (i := 1) nd rfl (Or.inl rfl) (pe_op uAdd (pv 1) (pe_lstN (pa_cons (pe_callB call_isV (by rfl) n_isinstance (by decide +kernel) (pa_cons (pv 0) (pa_cons (pe_glob (v := .ref _) rfl g_Sealed rfl) pa_nil))) (pa_cons (pe_callB call_isV (by rfl) n_isinstance (by decide +kernel) (pa_cons (pv 0) (pa_cons (pe_glob (v := .ref _) rfl g_TooMany rfl) pa_nil))) (pa_cons (pe_callB call_isV (by rfl) n_isinstance (by decide +kernel) (pa_cons (pv 0) (pa_cons (pe_glob (v := .ref _) rfl g_TooSmall rfl) pa_nil))) (pa_cons (pe_callB call_isV (by rfl) n_isinstance (by decide +kernel) (pa_cons (pv 0) (pa_cons (pe_glob (v := .ref _) rfl g_Unlike rfl) pa_nil))) pa_nil)))))))
      (pss_one (ps_ret (pe_op uAdd (pv 1) (pe_lstN (pa_cons (pe_callB call_isV (by rfl) n_isinstance (by decide +kernel) (pa_cons (pv 0) (pa_cons (pe_glob (v := .ref _) rfl g_Untyped rfl) pa_nil))) (pa_cons (pe_callB call_isV (by rfl) n_isinstance (by decide +kernel) (pa_cons (pv 0) (pa_cons (pe_glob (v := .ref _) rfl g_Used rfl) pa_nil))) pa_nil))))))))))))))))), ?_⟩
    have e0 := e
    refine ⟨_, rfl, is1 e0 (k 0 _ rfl) ⟨_, rfl, is1 e0 (k 1 _ rfl) ⟨_, rfl, is1 e0 (k 2 _ rfl) ⟨_, rfl, is1 e0 (k 3 _ rfl) (lst_newS (by show 4 ≤ 1000; decide) fun p0 G0 s0 h0 => ?_)⟩⟩⟩⟩
    have e1 := e.same s0
    refine ⟨_, rfl, ⟨_, rfl, is1 e1 (k 4 _ rfl) ⟨_, rfl, is1 e1 (k 5 _ rfl) ⟨_, rfl, is1 e1 (k 6 _ rfl) ⟨_, rfl, is1 e1 (k 7 _ rfl) (lst_newS (by show 4 ≤ 1000; decide) fun r1 R1 t1 i1 => ?_)⟩⟩⟩⟩⟩
    refine add_lS (xs := flL fl 4) (t1 _ _ h0) i1 (fl4 fl 4) (by rw [flLen]; show 4 + 4 ≤ 1000; decide) fun p1 G1 u1 h1 => ?_
    have s1 := s0.trans (t1.trans u1)
    have e2 := e.same s1
    refine ⟨_, rfl, ⟨_, rfl, is1 e2 (k 8 _ rfl) ⟨_, rfl, is1 e2 (k 9 _ rfl) ⟨_, rfl, is1 e2 (k 10 _ rfl) ⟨_, rfl, is1 e2 (k 11 _ rfl) (lst_newS (by show 4 ≤ 1000; decide) fun r2 R2 t2 i2 => ?_)⟩⟩⟩⟩⟩
    refine add_lS (xs := flL fl 8) (t2 _ _ h1) i2 (fl4 fl 8) (by rw [flLen]; show 8 + 4 ≤ 1000; decide) fun p2 G2 u2 h2 => ?_
    have s2 := s1.trans (t2.trans u2)
    have e3 := e.same s2
    refine ⟨_, rfl, ⟨_, rfl, is1 e3 (k 12 _ rfl) ⟨_, rfl, is1 e3 (k 13 _ rfl) ⟨_, rfl, is1 e3 (k 14 _ rfl) ⟨_, rfl, is1 e3 (k 15 _ rfl) (lst_newS (by show 4 ≤ 1000; decide) fun r3 R3 t3 i3 => ?_)⟩⟩⟩⟩⟩
    refine add_lS (xs := flL fl 12) (t3 _ _ h2) i3 (fl4 fl 12) (by rw [flLen]; show 12 + 4 ≤ 1000; decide) fun p3 G3 u3 h3 => ?_
    have s3 := s2.trans (t3.trans u3)
    have e4 := e.same s3
    refine ⟨_, rfl, ⟨_, rfl, is1 e4 (k 16 _ rfl) ⟨_, rfl, is1 e4 (k 17 _ rfl) ⟨_, rfl, is1 e4 (k 18 _ rfl) ⟨_, rfl, is1 e4 (k 19 _ rfl) (lst_newS (by show 4 ≤ 1000; decide) fun r4 R4 t4 i4 => ?_)⟩⟩⟩⟩⟩
    refine add_lS (xs := flL fl 16) (t4 _ _ h3) i4 (fl4 fl 16) (by rw [flLen]; show 16 + 4 ≤ 1000; decide) fun p4 G4 u4 h4 => ?_
    have s4 := s3.trans (t4.trans u4)
    have e5 := e.same s4
    refine ⟨_, rfl, ⟨_, rfl, is1 e5 (k 20 _ rfl) ⟨_, rfl, is1 e5 (k 21 _ rfl) ⟨_, rfl, is1 e5 (k 22 _ rfl) ⟨_, rfl, is1 e5 (k 23 _ rfl) (lst_newS (by show 4 ≤ 1000; decide) fun r5 R5 t5 i5 => ?_)⟩⟩⟩⟩⟩
    refine add_lS (xs := flL fl 20) (t5 _ _ h4) i5 (fl4 fl 20) (by rw [flLen]; show 20 + 4 ≤ 1000; decide) fun p5 G5 u5 h5 => ?_
    have s5 := s4.trans (t5.trans u5)
    have e6 := e.same s5
    refine ⟨_, rfl, ⟨_, rfl, is1 e6 (k 24 _ rfl) ⟨_, rfl, is1 e6 (k 25 _ rfl) ⟨_, rfl, is1 e6 (k 26 _ rfl) ⟨_, rfl, is1 e6 (k 27 _ rfl) (lst_newS (by show 4 ≤ 1000; decide) fun r6 R6 t6 i6 => ?_)⟩⟩⟩⟩⟩
    refine add_lS (xs := flL fl 24) (t6 _ _ h5) i6 (fl4 fl 24) (by rw [flLen]; show 24 + 4 ≤ 1000; decide) fun p6 G6 u6 h6 => ?_
    have s6 := s5.trans (t6.trans u6)
    have e7 := e.same s6
    refine ⟨_, rfl, ⟨_, rfl, is1 e7 (k 28 _ rfl) ⟨_, rfl, is1 e7 (k 29 _ rfl) ⟨_, rfl, is1 e7 (k 30 _ rfl) ⟨_, rfl, is1 e7 (k 31 _ rfl) (lst_newS (by show 4 ≤ 1000; decide) fun r7 R7 t7 i7 => ?_)⟩⟩⟩⟩⟩
    refine add_lS (xs := flL fl 28) (t7 _ _ h6) i7 (fl4 fl 28) (by rw [flLen]; show 28 + 4 ≤ 1000; decide) fun p7 G7 u7 h7 => ?_
    have s7 := s6.trans (t7.trans u7)
    have e8 := e.same s7
    refine ⟨_, rfl, ⟨_, rfl, is1 e8 (k 32 _ rfl) ⟨_, rfl, is1 e8 (k 33 _ rfl) ⟨_, rfl, is1 e8 (k 34 _ rfl) ⟨_, rfl, is1 e8 (k 35 _ rfl) (lst_newS (by show 4 ≤ 1000; decide) fun r8 R8 t8 i8 => ?_)⟩⟩⟩⟩⟩
    refine add_lS (xs := flL fl 32) (t8 _ _ h7) i8 (fl4 fl 32) (by rw [flLen]; show 32 + 4 ≤ 1000; decide) fun p8 G8 u8 h8 => ?_
    have s8 := s7.trans (t8.trans u8)
    have e9 := e.same s8
    refine ⟨_, rfl, ⟨_, rfl, is1 e9 (k 36 _ rfl) ⟨_, rfl, is1 e9 (k 37 _ rfl) ⟨_, rfl, is1 e9 (k 38 _ rfl) ⟨_, rfl, is1 e9 (k 39 _ rfl) (lst_newS (by show 4 ≤ 1000; decide) fun r9 R9 t9 i9 => ?_)⟩⟩⟩⟩⟩
    refine add_lS (xs := flL fl 36) (t9 _ _ h8) i9 (fl4 fl 36) (by rw [flLen]; show 36 + 4 ≤ 1000; decide) fun p9 G9 u9 h9 => ?_
    have s9 := s8.trans (t9.trans u9)
    have e10 := e.same s9
    refine ⟨_, rfl, ⟨_, rfl, is1 e10 (k 40 _ rfl) ⟨_, rfl, is1 e10 (k 41 _ rfl) ⟨_, rfl, is1 e10 (k 42 _ rfl) ⟨_, rfl, is1 e10 (k 43 _ rfl) (lst_newS (by show 4 ≤ 1000; decide) fun r10 R10 t10 i10 => ?_)⟩⟩⟩⟩⟩
    refine add_lS (xs := flL fl 40) (t10 _ _ h9) i10 (fl4 fl 40) (by rw [flLen]; show 40 + 4 ≤ 1000; decide) fun p10 G10 u10 h10 => ?_
    have s10 := s9.trans (t10.trans u10)
    have e11 := e.same s10
    refine ⟨_, rfl, ⟨_, rfl, is1 e11 (k 44 _ rfl) ⟨_, rfl, is1 e11 (k 45 _ rfl) (lst_newS (by show 2 ≤ 1000; decide) fun r11 R11 t11 i11 => ?_)⟩⟩⟩
    refine add_lS (xs := flL fl 44) (t11 _ _ h10) i11 (fl2 fl 44) (by rw [flLen]; show 44 + 2 ≤ 1000; decide) fun p11 G11 u11 h11 => ?_
    have s11 := s10.trans (t11.trans u11)
    exact q p11 _ s11 h11
end
end RS

/-! Data: what repr and == ask of a datum, put together part by part. -/
namespace RS
open PySem PySem.Spec PyProof.Rows L2

/-- d may be laid, shown; its height, its weight -/
structure Okd (d : PyData) (D W : Nat) : Prop where
  lay : d.canLay0 = true
  shw : d.showable = true
  dep : d.depth ≤ D
  ivs : d.intsShort 20 = true
  wei : d.weight ≤ W
structure OkdA (ds : List PyData) (D W : Nat) : Prop where
  lay : PyData.canLayAll0 ds = true
  shw : PyData.showableAll ds = true
  dep : PyData.depthAll ds ≤ D
  ivs : PyData.intsShortAll 20 ds = true
  wei : PyData.weightAll ds ≤ W
theorem Okd.mono {d : PyData} {D W D' W' : Nat} (h : Okd d D W) (a : D ≤ D') (b : W ≤ W') : Okd d D' W' := ⟨h.lay, h.shw, Nat.le_trans h.dep a, h.ivs, Nat.le_trans h.wei b⟩
theorem OkdA.mono {d : List PyData} {D W D' W' : Nat} (h : OkdA d D W) (a : D ≤ D') (b : W ≤ W') : OkdA d D' W' := ⟨h.lay, h.shw, Nat.le_trans h.dep a, h.ivs, Nat.le_trans h.wei b⟩
theorem OkdA.nil {D : Nat} : OkdA [] D 0 := ⟨by simp only [PyData.canLayAll0], by simp only [PyData.showableAll], by simp only [PyData.depthAll]; exact Nat.zero_le _, by simp only [PyData.intsShortAll], by simp only [PyData.weightAll]; exact Nat.zero_le _⟩
theorem OkdA.cons {d : PyData} {ds : List PyData} {D W W' : Nat} (h : Okd d D W) (r : OkdA ds D W') : OkdA (d :: ds) D (W + 1 + W') :=
  ⟨by simp only [PyData.canLayAll0, h.lay, r.lay, Bool.and_self], by simp only [PyData.showableAll, h.shw, r.shw, Bool.and_self], by simp only [PyData.depthAll]; exact Nat.max_le.mpr ⟨h.dep, r.dep⟩,
    by simp only [PyData.intsShortAll, h.ivs, r.ivs, Bool.and_self], by simp only [PyData.weightAll]; have := h.wei; have := r.wei; omega⟩
theorem OkdA.tup {ds : List PyData} {D W : Nat} (h : OkdA ds D W) : Okd (.tuple ds) (D + 1) W :=
  ⟨by simp only [PyData.canLay0]; exact h.lay, by simp only [PyData.showable]; exact h.shw, by simp only [PyData.depth]; have := h.dep; omega, by simp only [PyData.intsShort]; exact h.ivs, by simp only [PyData.weight]; exact h.wei⟩
theorem OkdA.lst {ds : List PyData} {D W : Nat} (h : OkdA ds D W) : Okd (.list ds) (D + 1) W :=
  ⟨by simp only [PyData.canLay0]; exact h.lay, by simp only [PyData.showable]; exact h.shw, by simp only [PyData.depth]; have := h.dep; omega, by simp only [PyData.intsShort]; exact h.ivs, by simp only [PyData.weight]; exact h.wei⟩
theorem OkdA.all {W : Nat} {D : Nat} : ∀ (ds : List PyData), (∀ d ∈ ds, Okd d D W) → OkdA ds D (ds.length * (W + 1))
  | [], _ => OkdA.nil.mono (Nat.le_refl _) (Nat.zero_le _)
  | d :: ds, h => ((OkdA.cons (h d List.mem_cons_self) (OkdA.all ds fun x hx => h x (List.mem_cons_of_mem _ hx)))).mono (Nat.le_refl _) (by rw [List.length_cons, Nat.succ_mul]; omega)
theorem Okd.int {i : Int} {D : Nat} (h : i.natAbs < 10 ^ 18) : Okd (.int i) D 64 := by
  have hl : i.natAbs.log2 < 64 := by
    rcases Nat.eq_zero_or_pos i.natAbs with z | z
    · rw [z]; decide
    · exact (Nat.log2_lt (by omega)).mpr (Nat.lt_trans h (by decide))
  refine ⟨rfl, by simp only [PyData.showable, decide_eq_true_eq]; omega, Nat.zero_le _, ?_, ?_⟩
  · have e := int_text_length_le10 (k := 18) (by decide) h
    simp only [PyData.intsShort, decide_eq_true_eq]
    show (Str.ofString (toString i)).length ≤ 20
    rw [PySem.ofString_length]; omega
  · simp only [PyData.weight]
    split <;> omega
theorem Okd.str {x : Str} {D W : Nat} (h : PyData.strOk x = true) (hw : x.cps.size ≤ W) : Okd (.str x) D W := ⟨h, rfl, Nat.zero_le _, rfl, hw⟩
theorem Okd.shaped {d : PyData} {D W : Nat} (h : Okd d D W) (hD : D ≤ 64) : SeqAt.shaped d = true := Bool.and_eq_true_iff.mpr ⟨h.lay, decide_eq_true (Nat.le_trans h.dep hD)⟩
theorem Okd.noDict {d : PyData} {D W : Nat} (h : Okd d D W) : d.hasDict = false := PyData.hasDict_of_canLay d h.lay
theorem Okd.len {d : PyData} {D W : Nat} (h : Okd d D W) (hW : W ≤ 700000) : d.shown.length ≤ sizeLine := by
  have h1 := PyData.shown_le 20 (by decide) d (PyData.leavesShort_of_canLay0 20 d h.lay h.ivs)
  have h2 := Nat.mul_le_mul_left (20 + 2) (Nat.le_trans h.wei hW)
  rw [sizeLine_eq]; omega
theorem Okd.eqv {d : PyData} {D W : Nat} (h : Okd d D W) : PyData.eqv d d = true := SeqAt.eqv_refl_plain d (PyData.plain_of_canLay0 d h.lay)

/-! ### repr, told so that the unifier opens the other side -/
structure rRepU (K : PySem.W.Frag) (xs : List V) (H : Hp) (Q : VK) : Prop where
  ex : ∃ a d D W, xs = [.ref a] ∧ Dp K H (.ref a) d ∧ Okd d D W ∧ D + 1 ≤ 64 ∧ W ≤ 700000 ∧ Q (.str d.shown) H
theorem uRepr {X : Cx} (hg : AG X.A) (hu : X.A.units + 64 < cLine) : CallR X (.builtin "repr") (rRepU X.K) := fun pins s σ H xs us Q I r h => by
  obtain ⟨a, d, D, W, e, hd, o, h1, h2, q⟩ := h.ex
  exact cr_repr hg hu pins s σ H xs us Q I r ⟨a, d, e, hd, o.shw, o.noDict, by have := o.dep; omega, o.len h2, q⟩
theorem rp {K : PySem.W.Frag} {H : Hp} {l : Addr} {d : PyData} {D W : Nat} {Q : VK} (h : Dp K H (.ref l) d) (o : Okd d D W) (hD : D + 1 ≤ 64) (hW : W ≤ 700000) (q : Q (.str d.shown) H) : rRepU K [.ref l] H Q := ⟨l, d, D, W, rfl, h, o, hD, hW, q⟩
theorem rpL {K : PySem.W.Frag} {H : Hp} {l : Addr} {xs : List V} {ds : List PyData} {D W : Nat} {Q : VK} (h : SqL K H l xs) (hd : DtAll K H xs ds) (o : OkdA ds D W) (hD : D + 2 ≤ 64) (hW : W ≤ 700000) (q : Q (.str (PyData.list ds).shown) H) : rRepU K [.ref l] H Q :=
  rp (.lst h (DtAll.dp _ hd)) o.lst (by omega) hW q

end RS

/-! RSLaw: a def that is called where no repr is under way; the law's own call. -/
namespace RS
open PySem PySem.Spec PyProof.Rows L2

/-- a def's promise where no guarded call is under way -/
structure FnG (P : Program) (w : World) (K : PySem.W.Frag) (mg : Str → Option Value) (base : Heap) (k : Nat) (f : Addr) (fd : FuncData) (ps : List Str) (sp : Sp) : Prop where
  len : ∀ vs H Q E, sp vs H Q E → vs.length = ps.length
  run : ∀ (A : Around) (outer : List Env) (s : Shared) (H : Hp) (args : Args) (us : List Value) (vs : List V) (Q : VK) (E : XK), AG A → Room k A → Env0 P w K mg base A outer s H → BindsTo s fd args (ps.zip us) → Vals vs us → sp vs H Q E →
    codeAny (model P w) A (.call (.ref f) args) (CR CX0 outer P w H s Q E) s
theorem okG {P : Program} {w : World} {K : PySem.W.Frag} {mg : Str → Option Value} {base : Heap} {x qual : Str} {st : Stmt} {f : Addr} {fd : FuncData} {N ps : List Str} {k : Nat} {sp : Sp} (F : Fun K x qual st f fd) (S : FnScope N ps (defScope st)) (len : ∀ vs H Q E, sp vs H Q E → vs.length = ps.length)
    (body : ∀ (cdv : Value) (A : Around) (outer : List Env) (s : Shared) (H : Hp) (vs : List V) (Q : VK) (E : XK), AG (A.deeper (envOfC qual (defScope st) s.heap.objs.size f cdv)) → Room k (A.deeper (envOfC qual (defScope st) s.heap.objs.size f cdv)) → sp vs H Q E →
      ∃ t, PSs (cxOf CX0 P w K mg base N qual (defScope st) f cdv A outer s H E).nox (defBody st) t ∧ t { nx := fun _ H' => Q .non H', rt := Q } (start N vs) H) : FnG P w K mg base (k + 1) f fd ps sp := by
  obtain ⟨oc, od, kV, doc, pm, an, cdv, ct, osl, rfl, lk, hcd⟩ := F.ex
  refine ⟨len, fun A outer s H args us vs Q E hg hr e0 hb r q => ?_⟩
  have hlen := len _ _ _ _ q
  have keep : ∀ b o, base.get? b = some o → s.heap.get? b = some o := fun b o e => (e0.bs b o e).1
  have kin : K.In s.heap := e0.mod.kin.keeps keep
  have kinds : ∀ y ∈ ps.zip us, (defScope st).names.lookup y.1 = some .local ∨ ((defScope st).names.lookup y.1 = some .cell ∧ ((cellsFrom (s.heap.objs.size + 1) (defScope st).names []).lookup y.1).isSome = true) := by
    rintro ⟨n, v⟩ hy
    exact (S.par n (List.of_mem_zip hy).1).imp id fun z => ⟨z, PySem.W.cellsFrom_some _ _ _ (.inl z)⟩
  refine codeAny_call_function hr.depth (kin _ _ lk) rfl S.co S.gen rfl (PySem.W.codeRec_of kin hcd) (hb _ _ _ _ (wpAny_newFunctionEnv_cells S.kind kinds fun env he s1 ic => ?_))
  subst he
  obtain ⟨t, ht, hq⟩ := body cdv A outer s H vs Q E hg (hr.deeper _) q
  refine ⟨(e0.mod.nolimit.keeps keep).keeps ic.toInCall.keep, codeAny_func (wpAny_mono (ht.nox.run [] s1 _ H _ (inv_start S hr.hd e0 hlen r ic) hq) (fun fl s' z => ?_) fun e s' z => z)⟩
  cases fl with
  | ret u => obtain ⟨v, σ', H', J, rv, q'⟩ := z; exact ⟨v, H', J.os, J.bare, J.base, J.hok, rv, q'⟩
  | next => obtain ⟨σ', H', J, q'⟩ := z; exact ⟨.non, H', J.os, J.bare, J.base, J.hok, rfl, q'⟩
  | brk => exact (z.elim fun _ z => z.elim fun _ z => z.2.elim)
  | cont => exact (z.elim fun _ z => z.elim fun _ z => z.2.elim)
/-- the script as the law's call finds it: locked, or an object of the module -/
def scriptH (K : PySem.W.Frag) (a : Addr) (vs : List Value) (ns : List Int) : Hp := fun b => if b = a ∧ K.lookup a = none then some (.frz { cls := .type "list", data := .seq vs.toArray } (.lst (ns.map V.int))) else none
theorem law_goes {P : Program} {w : World} {K : PySem.W.Frag} {mg mb : Str → Option Value} {k : Nat} {fa a : Addr} {fd : FuncData} {x : Str} {sp : Sp} {s1 : Shared} {vs : List Value} {ns : List Int} (kin : K.In s1.heap) (gl : s1.heap.Ns mainGlobals mg) (bl : s1.heap.Ns builtinsNs mb)
    (blt : ∀ x : Str, x ≠ "__name__" → mb x = bootBuiltins x) (lim : s1.heap.NoLimit) (gens : s1.gens = #[]) (ha : s1.heap.get? a = some { cls := .type "list", data := .seq vs.toArray }) (hi : IntsAre vs ns) (hl : ns.length ≤ sizeLine) (hr : Room k callerA)
    (F : ∀ base : Heap, K.In base → base.Ns mainGlobals mg → FnG P w K mg base k fa fd [x] sp) (bind : ∀ (s : Shared) (u : Value), BindsTo s fd ⟨[u], []⟩ [(x, u)])
    (hsp : ∀ H : Hp, SqL K H a (ns.map V.int) → sp [.ref a] H (fun v _ => v = .bl true) fun _ _ _ => False) :
    codeAny (model P w) callerA (.call (.ref fa) ⟨[.ref a], []⟩) (fun r s' => r = .ok (.ret (.bool true)) ∧ OldK s1.heap s'.heap ∧ s'.os = s1.os ∧ AllBare s'.gens) s1 := by
  have rv := vals_ints hi
  have only : ∀ b u, scriptH K a vs ns b = some u → b = a ∧ K.lookup a = none ∧ u = .frz { cls := .type "list", data := .seq vs.toArray } (.lst (ns.map V.int)) := fun b u e => by
    unfold scriptH at e
    split at e
    · rename_i h; exact ⟨h.1, h.2, (Option.some.inj e).symm⟩
    · cases e
  have frees : ∀ b, (scriptH K a vs ns b ≠ none → b = a) := fun b z => by
    cases e : scriptH K a vs ns b with
    | none => exact absurd e z
    | some u => exact (only b u e).1
  have hok : HOk P w (scriptH K a vs ns) s1.heap := fun b u e => by
    obtain ⟨rfl, _, rfl⟩ := only b u e
    exact ⟨ha, by rw [List.length_map]; exact hl, vs, _, rv, ha⟩
  have sq : SqL K (scriptH K a vs ns) a (ns.map V.int) := by
    cases e : K.lookup a with
    | none => exact .inl (.inr ⟨_, if_pos ⟨rfl, e⟩⟩)
    | some o =>
      have e' := kin a o e
      rw [ha] at e'
      cases e'
      exact .inr ⟨_, vs.toArray, _, e, rfl, rfl, rfl, by rw [List.size_toArray, hi.length]; exact hl, by simpa using rv⟩
  -- what is a dict, what the written part knows, is not tracked
  have untr : ∀ {b : Addr} {o : Obj}, s1.heap.get? b = some o → (∀ xs n, o.data ≠ .seq xs n) → scriptH K a vs ns b = none := fun {b o} e d => by
    cases q : scriptH K a vs ns b with
    | none => rfl
    | some u =>
      obtain ⟨rfl, _, _⟩ := only b u q
      rw [ha] at e; cases e
      exact absurd rfl (d _ _)
  have nsB : ∀ {b : Addr} {m : Str → Option Value}, s1.heap.Ns b m → (hidT s1.heap (scriptH K a vs ns)).Ns b m := fun {b m} ⟨o, es, ep, e, d, r⟩ => ⟨o, es, ep, hidT_get e (untr e fun xs n z => by rw [d] at z; cases z), d, r⟩
  have kinB : K.In (hidT s1.heap (scriptH K a vs ns)) := fun b o e => hidT_get (kin b o e) (by
    cases q : scriptH K a vs ns b with
    | none => rfl
    | some u =>
      obtain ⟨rfl, z, _⟩ := only b u q
      rw [z] at e; cases e)
  have e0 : Env0 P w K mg (hidT s1.heap (scriptH K a vs ns)) callerA [] s1 (scriptH K a vs ns) := by
    refine ⟨rfl, ⟨kinB, nsB gl, ⟨mb, nsB bl, blt⟩, ?_⟩, fun b o e => of_hidT e, Nat.le_of_eq (hidT_size _ _), trivial, (fun b z => nomatch z), hok, .of_eq gens⟩
    obtain ⟨mc, q1, q2⟩ := lim
    exact ⟨mc, nsB q1, q2⟩
  refine codeAny_mono ((F _ kinB (nsB gl)).run callerA [] s1 _ ⟨[.ref a], []⟩ [.ref a] [.ref a] _ _ rfl hr e0 (bind s1 (.ref a)) (.cons rfl .nil) (hsp _ sq)) fun r s' z => ?_
  match r, z with
  | .ok (.ret u), ⟨v, H', os, bare, un, hok', r', q⟩ =>
    obtain rfl : v = .bl true := q
    obtain rfl : u = Value.bool true := r'
    refine ⟨rfl, OldK.of_keep fun b o e => ?_, os, bare⟩
    cases q : scriptH K a vs ns b with
    | none => exact un.keep b o e q (fun z => nomatch z) (fun z => nomatch z)
    | some u =>
      obtain ⟨rfl, _, rfl⟩ := only b u q
      obtain ⟨t1, _⟩ := hok b _ q
      obtain ⟨t2, _⟩ := hok' b _ (un.frzs b _ _ q)
      rw [e] at t1; cases t1
      exact t2
/-- the goal behind the head, from the law's promise -/
theorem walkG {l : PySem.W.OpenLaw} {n k : Nat} {q : Program} {loose : List Str} {XP : (Str → Option Value) → Heap → Prop} {YP : World → Heap → Prop} {d : DefRec} {K : Params → PySem.W.Frag} {sp : World → Sp} {x : Str} (hn : l.most = some n) (hn2 : n ≤ sizeLine) (hdf : d.params.defaults = []) (hr : Room k callerA)
    (hY : ∀ (w : World) (h : Heap), YP w h → (K w.params).In h)
    (F : ∀ (w : World) (mg : Str → Option Value) (fa : Addr) (h : Heap), (K w.params).In h → h.Ns mainGlobals mg → mg d.name = some (.ref fa) →
      ∃ fd : FuncData, (∀ (s : Shared) (u : Value), BindsTo s fd ⟨[u], []⟩ [(x, u)]) ∧ ∀ base : Heap, (K w.params).In base → base.Ns mainGlobals mg → FnG l.prog w (K w.params) mg base k fa fd [x] (sp w))
    (hsp : ∀ (w : World) (H : Hp) (a : Addr) (ns : List Int), ns.length ≤ n → (∀ z ∈ ns, Builtin.Int.intBits z ≤ 1048576) → SqL (K w.params) H a (ns.map V.int) → sp w [.ref a] H (fun v _ => v = .bl true) fun _ _ _ => False) :
    PySem.W.WalkO q loose XP YP l.row.toRowW d [] (fun f vs => PySem.call f vs) := by
  refine Att.attach_callB hn hdf fun w s0 s1 mg mb fa o pm cd doc a vs ns G Y ho hd hcd hmg ha hi hlen hbits hg => ?_
  obtain ⟨fd, hb, hF⟩ := F w mg fa _ (hY w _ Y) G.T.g hmg
  exact law_goes (hY w _ Y) G.T.g G.T.b G.T.builtins G.T.nolimit hg ha hi (Nat.le_trans hlen hn2) hr hF hb fun H hS => hsp w H a ns hlen hbits hS
end RS

/-! RSTab: the law's own call where defs make nested functions: their tables of code objects, empty at the start, are tracked. -/
namespace RS
open PySem PySem.Spec PyProof.Rows L2 LamX NdefX

abbrev emptyT : Obj := { cls := .none, data := .fields #[] }
section
variable {K : PySem.W.Frag}
theorem less_hd {h : Heap} {c P : Addr} {o : Obj} (X : K.In h) (ho : K.lookup c = some o) (hd : PySem.W.codeHdIn [(c, o)] c P = true) : PySem.W.CodeHd h c P := by
  have e : PySem.W.codeHdIn K c P = true := by
    unfold PySem.W.codeHdIn at hd ⊢
    rw [ho]
    have : ([(c, o)] : PySem.W.Frag).lookup c = some o := by simp [List.lookup_cons]
    rw [this] at hd
    exact hd
  exact PySem.W.codeHd_of_K X e
/-- the values of a code object -/
def obVs (o : Obj) : Array Value := match o.data with
  | .fields vs => vs
  | _ => #[]
end
/-- what is tracked as the law begins: its script where the module has not written it, the tables -/
def beginH (K : PySem.W.Frag) (a : Addr) (vs : List Value) (ns : List Int) (ts : List Addr) : Hp := fun b =>
  if b = a ∧ K.lookup a = none then some (.frz { cls := .type "list", data := .seq vs.toArray } (.lst (ns.map V.int))) else if b ∈ ts then some (.tbl #[]) else none
theorem law_goesT {P : Program} {w : World} {K : PySem.W.Frag} {mg mb : Str → Option Value} {k : Nat} {fa a : Addr} {cs : List (Addr × Addr)} {fd : FuncData} {x : Str} {sp : Sp} {s1 : Shared} {vs : List Value} {ns : List Int} (kin : K.In s1.heap) (gl : s1.heap.Ns mainGlobals mg) (bl : s1.heap.Ns builtinsNs mb)
    (blt : ∀ x : Str, x ≠ "__name__" → mb x = bootBuiltins x) (lim : s1.heap.NoLimit) (gens : s1.gens = #[])
    (tabs : ∀ p ∈ cs, s1.heap.get? p.2 = some emptyT) (out : ∀ p ∈ cs, K.lookup p.2 = none) (heads : ∀ p ∈ cs, PySem.W.CodeHd s1.heap p.1 p.2)
    (main : ∃ (bm : Addr) (ob : Obj), mg "__builtins__" = some (.ref bm) ∧ bm ≠ builtinsNs ∧ s1.heap.get? bm = some ob ∧ ob.cls = .type "module" ∧ ob.dict = some builtinsNs ∧ ob.data = .plain)
    (ha : s1.heap.get? a = some { cls := .type "list", data := .seq vs.toArray }) (hi : IntsAre vs ns) (hl : ns.length ≤ sizeLine) (hr : Room k callerA)
    (F : ∀ base : Heap, K.In base → base.Ns mainGlobals mg → (∀ p ∈ cs, TabB base mg p.1 p.2) → FnG P w K mg base k fa fd [x] sp) (bind : ∀ (s : Shared) (u : Value), BindsTo s fd ⟨[u], []⟩ [(x, u)])
    (hsp : ∀ H : Hp, (∀ p ∈ cs, H p.2 = some (.tbl #[])) → SqL K H a (ns.map V.int) → sp [.ref a] H (fun v _ => v = .bl true) fun _ _ _ => False) :
    codeAny (model P w) callerA (.call (.ref fa) ⟨[.ref a], []⟩) (fun r s' => r = .ok (.ret (.bool true)) ∧ OldK s1.heap s'.heap ∧ s'.os = s1.os ∧ AllBare s'.gens) s1 := by
  have rv := vals_ints hi
  let ts := cs.map (·.2)
  let H0 := beginH K a vs ns ts
  have tabAt : ∀ b ∈ ts, s1.heap.get? b = some emptyT := fun b hb => by
    obtain ⟨p, hp, rfl⟩ := List.mem_map.mp hb
    exact tabs p hp
  have aNo : a ∉ ts := fun z => by
    have e := tabAt a z
    rw [ha] at e
    cases e
  have only : ∀ b u, H0 b = some u → (b = a ∧ K.lookup a = none ∧ u = .frz { cls := .type "list", data := .seq vs.toArray } (.lst (ns.map V.int))) ∨ (b ∈ ts ∧ u = .tbl #[]) := fun b u e => by
    have e : (if b = a ∧ K.lookup a = none then some (HO.frz { cls := .type "list", data := .seq vs.toArray } (.lst (ns.map V.int))) else if b ∈ ts then some (.tbl #[]) else none) = some u := e
    split at e
    · rename_i h; exact .inl ⟨h.1, h.2, (Option.some.inj e).symm⟩
    · split at e
      · rename_i h; exact .inr ⟨h, (Option.some.inj e).symm⟩
      · cases e
  have isTab : ∀ b ∈ ts, H0 b = some (.tbl #[]) := fun b hb => by
    have no : ¬ (b = a ∧ K.lookup a = none) := fun z => aNo (z.1 ▸ hb)
    exact (if_neg no).trans (if_pos hb)
  have hok : HOk P w H0 s1.heap := fun b u e => by
    rcases only b u e with ⟨rfl, _, rfl⟩ | ⟨hb, rfl⟩
    · exact ⟨ha, by rw [List.length_map]; exact hl, vs, _, rv, ha⟩
    · exact tabAt b hb
  have sq : SqL K H0 a (ns.map V.int) := by
    cases e : K.lookup a with
    | none => exact .inl (.inr ⟨_, if_pos ⟨rfl, e⟩⟩)
    | some o =>
      have e' := kin a o e
      rw [ha] at e'
      cases e'
      exact .inr ⟨_, vs.toArray, _, e, rfl, rfl, rfl, by rw [List.size_toArray, hi.length]; exact hl, by simpa using rv⟩
  -- what is no list and no such table is not tracked
  have untr : ∀ {b : Addr} {o : Obj}, s1.heap.get? b = some o → (∀ xs n, o.data ≠ .seq xs n) → o.data ≠ .fields #[] → H0 b = none := fun {b o} e d d2 => by
    cases q : H0 b with
    | none => rfl
    | some u =>
      rcases only b u q with ⟨rfl, _, _⟩ | ⟨hb, _⟩
      · rw [ha] at e; cases e
        exact absurd rfl (d _ _)
      · rw [tabAt b hb] at e; cases e
        exact absurd rfl d2
  have nsB : ∀ {b : Addr} {m : Str → Option Value}, s1.heap.Ns b m → (hidT s1.heap H0).Ns b m := fun {b m} ⟨o, es, ep, e, d, r⟩ => ⟨o, es, ep, hidT_get e (untr e (fun xs n z => by rw [d] at z; cases z) fun z => by rw [d] at z; cases z), d, r⟩
  have kinB : K.In (hidT s1.heap H0) := fun b o e => hidT_get (kin b o e) (by
    cases q : H0 b with
    | none => rfl
    | some u =>
      rcases only b u q with ⟨rfl, z, _⟩ | ⟨hb, _⟩
      · rw [z] at e; cases e
      · obtain ⟨p, hp, rfl⟩ := List.mem_map.mp hb
        rw [out p hp] at e; cases e)
  have tb : ∀ p ∈ cs, TabB (hidT s1.heap H0) mg p.1 p.2 := fun p hp => by
    have tp := tabs p hp
    refine ⟨?_, ?_, fun z => ?_⟩
    · obtain ⟨o, us, file, tf, flags, tg, inF, text, tt, e1, r1, r2, r3, r⟩ := heads p hp
      refine ⟨o, us, file, tf, flags, tg, inF, text, tt, hidT_get e1 (untr e1 (fun xs n z => by rw [r2] at z; cases z) fun z => ?_), r1, r2, r3, r⟩
      rw [r2] at z; cases z; cases r3
    · obtain ⟨bm, ob, b1, b2, b3, b4, b5, b6⟩ := main
      refine ⟨bm, ob, b1, b2, fun q => ?_, fun q => ?_, hidT_get b3 (untr b3 (fun xs n z => by rw [b6] at z; cases z) fun z => by rw [b6] at z; cases z), b4, b5, b6⟩
      · obtain ⟨o, es, ep, e, d, _⟩ := gl
        rw [q, e] at b3; cases b3
        rw [d] at b6; cases b6
      · rw [q, tp] at b3; cases b3; cases b6
    · obtain ⟨o, es, ep, e, d, _⟩ := gl
      rw [z, tp] at e; cases e; cases d
  have e0 : Env0 P w K mg (hidT s1.heap H0) callerA [] s1 H0 := by
    refine ⟨rfl, ⟨kinB, nsB gl, ⟨mb, nsB bl, blt⟩, ?_⟩, fun b o e => of_hidT e, Nat.le_of_eq (hidT_size _ _), trivial, (fun b z => nomatch z), hok, .of_eq gens⟩
    obtain ⟨mc, q1, q2⟩ := lim
    exact ⟨mc, nsB q1, q2⟩
  refine codeAny_mono ((F _ kinB (nsB gl) tb).run callerA [] s1 _ ⟨[.ref a], []⟩ [.ref a] [.ref a] _ _ rfl hr e0 (bind s1 (.ref a)) (.cons rfl .nil) (hsp _ (fun p hp => isTab p.2 (List.mem_map.mpr ⟨p, hp, rfl⟩)) sq)) fun r s' z => ?_
  match r, z with
  | .ok (.ret u), ⟨v, H', os, bare, un, hok', r', q⟩ =>
    obtain rfl : v = .bl true := q
    obtain rfl : u = Value.bool true := r'
    have stay : ∀ b o, b ∉ ts → s1.heap.get? b = some o → s'.heap.get? b = some o := fun b o nb e => by
      cases q : H0 b with
      | none => exact un.keep b o e q (fun z => nomatch z) (fun z => nomatch z)
      | some u =>
        rcases only b u q with ⟨rfl, _, rfl⟩ | ⟨hb, _⟩
        · obtain ⟨t1, _⟩ := hok b _ q
          obtain ⟨t2, _⟩ := hok' b _ (un.frzs b _ _ q)
          rw [e] at t1; cases t1
          exact t2
        · exact absurd hb nb
    have grew : ∀ b ∈ ts, ∃ more : Array Value, s'.heap.get? b = some { cls := .none, data := .fields more } := fun b hb => by
      obtain ⟨more, z⟩ := un.tbls b #[] (isTab b hb)
      exact ⟨_, hok' b _ z⟩
    refine ⟨rfl, ⟨fun b o e => ?_, fun b o e => ?_⟩, os, bare⟩
    · by_cases hb : b ∈ ts
      · obtain ⟨more, z⟩ := grew b hb
        rw [tabAt b hb] at e; cases e
        obtain ⟨p, hp, rfl⟩ := List.mem_map.mp hb
        refine .inr (.inl ⟨((heads p hp).tab (tabs p hp)).isCodeTable, rfl, #[], more, rfl, ?_⟩)
        rw [Array.empty_append]; exact z
      · exact .inl (stay b o hb e)
    · by_cases hb : b ∈ ts
      · obtain ⟨more, z⟩ := grew b hb
        exact ⟨_, z⟩
      · exact ⟨o, stay b o hb e⟩
/-- the goal behind the head, with tables -/
theorem walkT {l : PySem.W.OpenLaw} {n k : Nat} {q : Program} {loose : List Str} {XP : (Str → Option Value) → Heap → Prop} {YP : World → Heap → Prop} {d : DefRec} {K : Params → PySem.W.Frag} {x : Str} (hn : l.most = some n) (hn2 : n ≤ sizeLine) (hdf : d.params.defaults = []) (hr : Room k callerA)
    (hY : ∀ (w : World) (h : Heap), YP w h → (K w.params).In h)
    (F : ∀ (w : World) (mg : Str → Option Value) (fa : Addr) (h : Heap), YP w h → (K w.params).In h → h.Ns mainGlobals mg → mg d.name = some (.ref fa) →
      ∃ (fd : FuncData) (cs : List (Addr × Addr)) (sp : Sp), (∀ p ∈ cs, h.get? p.2 = some emptyT) ∧ (∀ p ∈ cs, (K w.params).lookup p.2 = none) ∧ (∀ p ∈ cs, PySem.W.CodeHd h p.1 p.2) ∧ (∀ (s : Shared) (u : Value), BindsTo s fd ⟨[u], []⟩ [(x, u)]) ∧
        (∀ (H : Hp) (a : Addr) (ns : List Int), ns.length ≤ n → (∀ p ∈ cs, H p.2 = some (.tbl #[])) → SqL (K w.params) H a (ns.map V.int) → sp [.ref a] H (fun v _ => v = .bl true) fun _ _ _ => False) ∧
        ∀ base : Heap, (K w.params).In base → base.Ns mainGlobals mg → (∀ p ∈ cs, TabB base mg p.1 p.2) → FnG l.prog w (K w.params) mg base k fa fd [x] sp) :
    PySem.W.WalkO q loose XP YP l.row.toRowW d [] (fun f vs => PySem.call f vs) := by
  refine Att.attach_callB hn hdf fun w s0 s1 mg mb fa o pm cd doc a vs ns G Y ho hd hcd hmg ha hi hlen hbits hg => ?_
  obtain ⟨fd, cs, sp, t1, t2, t3, hb, hsp, hF⟩ := F w mg fa _ Y (hY w _ Y) G.T.g hmg
  exact law_goesT (hY w _ Y) G.T.g G.T.b G.T.builtins G.T.nolimit hg t1 t2 t3 G.T.bmain ha hi (Nat.le_trans hlen hn2) hr hF hb fun H hH hS => hsp H a ns hlen hH hS
end RS

/-! HeadK: the head by one kernel run; what the top has left, told by names: defs, own __init__, one Bool more, tables. -/
namespace RS
open PySem PySem.Spec PyProof.Rows L2

def dfd (x : Str) (st : Stmt) : He.DefD := ⟨(x, none), x, x, defArgs st, defBody st, defScope st, [], []⟩
theorem fun_of {K : PySem.W.Frag} {x : Str} {st : Stmt} {f : Addr} {fd : FuncData} (F : FunD K x x (defArgs st) (defBody st) (defScope st) [] [] f fd) : Fun K x x st f fd := by
  obtain ⟨oc, od, dV, kV, doc, pm, an, cdv, ct, osl, e, l, c, d, k⟩ := F.ex
  rcases d with ⟨_, z⟩ | ⟨z, _⟩
  · subst z
    exact ⟨⟨oc, od, kV, doc, pm, an, cdv, ct, osl, e, l, c⟩, F.kp⟩
  · exact absurd rfl z
/-- a class's own __init__, as data -/
abbrev IniW : Type := Option (Str × Str × Arguments × FuncBody × Scope × Addr × List Str × Addr)
def iniA (K : PySem.W.Frag) (x : Str) : Addr := He.ma K (He.ga K x) "__init__"
def iniW (K : PySem.W.Frag) (x : Str) : IniW := match K.lookup (iniA K x) with
  | some ⟨_, _, .func fd, _⟩ => some (fd.name, fd.qualname, fd.params, fd.body, fd.scope, fd.globals, fd.closure.map (·.1), fd.builtins)
  | _ => none
structure IniD where
  x : Str
  qual : Str
  st : Stmt
def IniD.val (d : IniD) : IniW := some ("__init__", d.qual, C8.fnArgs d.st, .stmts (C8.fnBody d.st), C8.fnScope d.st, mainGlobals, ["__class__"], builtinsNs)
/-- its cell, its code object -/
def iniC (K : PySem.W.Frag) (x : Str) : Addr := match K.lookup (iniA K x) with
  | some ⟨_, _, .func fd, _⟩ => (match fd.closure with
    | [(_, c)] => c
    | _ => 0)
  | _ => 0
def iniO (K : PySem.W.Frag) (x : Str) : Addr := match K.lookup (iniA K x) with
  | some ⟨_, _, .func fd, _⟩ => (match fd.code with
    | .ref c => c
    | _ => 0)
  | _ => 0
/-- what else is asked of it -/
def iniB (K : PySem.W.Frag) (d : IniD) : Bool := (match K.lookup (iniA K d.x) with
  | some ⟨_, _, .func fd, _⟩ => (match fd.code with
    | .ref _ => true
    | _ => false) && (match fd.defaults with
    | .none => true
    | _ => false)
  | _ => false) && PySem.W.codeIn K (.ref (iniO K d.x)) d.qual && (PySem.W.findIn K (.ref (He.ga K d.x)) "__init__" == some (some (.ref (iniA K d.x)))) && (PySem.W.typeIn K (.ref (iniA K d.x)) == some (.type "function"))
structure IniOk (K : PySem.W.Frag) (d : IniD) : Prop where
  ex : ∃ (oc : Value) (od : Option Addr) (kV doc pm ct : Value) (an : Option Addr) (osl : Array (Option Value)), K.lookup (iniA K d.x) = some ⟨oc, od, .func (PySem.W.fnX "__init__" d.qual (C8.fnArgs d.st) (C8.fnBody d.st) (C8.fnScope d.st) [("__class__", iniC K d.x)] .none kV doc pm an (.ref (iniO K d.x)) ct), osl⟩
  cd : PySem.W.codeIn K (.ref (iniO K d.x)) d.qual = true
  fi : PySem.W.findIn K (.ref (He.ga K d.x)) "__init__" = some (some (.ref (iniA K d.x)))
  ty : PySem.W.typeIn K (.ref (iniA K d.x)) = some (.type "function")
theorem ini_ok {K : PySem.W.Frag} {d : IniD} (e : iniW K d.x = d.val) (b : iniB K d = true) : IniOk K d := by
  unfold iniB at b
  simp only [Bool.and_eq_true, beq_iff_eq] at b
  obtain ⟨⟨⟨b1, b2⟩, b3⟩, b4⟩ := b
  refine ⟨?_, b2, b3, b4⟩
  unfold iniW IniD.val at e
  unfold iniC iniO
  split at b1
  · rename_i oc od fd osl hl
    rw [hl] at e ⊢
    obtain ⟨nm, qn, ps, bd, sc, gl, cl, df, kv, dc, pm, an, bi, cd, ct⟩ := fd
    simp only [Option.some.injEq, Prod.mk.injEq] at e
    obtain ⟨rfl, rfl, rfl, rfl, rfl, rfl, e7, rfl⟩ := e
    dsimp only at b1 ⊢
    obtain ⟨c2, ecl⟩ : ∃ c2 : Addr, cl = [(("__class__" : Str), c2)] := by
      cases cl with
      | nil => simp at e7
      | cons p r =>
        cases r with
        | nil =>
          obtain ⟨c1, c2⟩ := p
          have e1 : c1 = "__class__" := by simpa using e7
          exact ⟨c2, by rw [e1]⟩
        | cons q r => simp at e7
    subst ecl
    split at b1
    · rename_i c hc
      split at b1
      · exact ⟨_, _, _, _, _, _, _, _, rfl⟩
      · cases b1
    · simp at b1
  · cases b1
/-! ### the Hook -/
/-- what the module's names reach in n steps, and the statics -/
def adY (g : Addr → Option Obj) (n : Nat) : List Addr := He.asD g n ++ [cStatics]
def partY (g : Addr → Option Obj) (n : Nat) : PySem.W.Frag := He.frT g (adY g n)
section
variable (n : Nat) (fa : List He.Fa) (fn : List He.DefD) (ts : List He.Tab) (tf : List He.Defn) (ex : PySem.W.Frag → Bool) (ini : List IniD)
abbrev ObY : Type := He.AlT × Bool × List IniW
def allB (g : Addr → Option Obj) (K : PySem.W.Frag) : Bool := ex K && ((ini.all fun d => iniB K d) && He.tabsB g tf K)
def obsY (g : Addr → Option Obj) : ObY := (He.obsT fa fn ts (partY g n), allB tf ex ini g (partY g n), ini.map fun d => iniW (partY g n) d.x)
/-- what is told of the part K -/
structure SaysY (w : World) (h : Heap) (K : PySem.W.Frag) : Prop where
  t : He.SaysT fa fn ts w K
  more : ex K = true
  inb : (ini.all fun d => iniB K d) = true
  i : (ini.map fun d => iniW K d.x) = ini.map IniD.val
  hd : ∀ p ∈ tf, PySem.W.codeHdIn K (He.cT K p).1 (He.cT K p).2 = true
  out : ∀ p ∈ tf, K.lookup (He.cT K p).2 = none
  emp : ∀ p ∈ tf, h.get? (He.cT K p).2 = some emptyT
theorem says_of {w : World} {h : Heap} (e : obsY n fa fn ts tf ex ini h.get? = (He.valT fn ts w, true, ini.map IniD.val)) : SaysY fa fn ts tf ex ini w h (partY h.get? n) := by
  have e2 : allB tf ex ini h.get? (partY h.get? n) = true := congrArg (fun z : ObY => z.2.1) e
  obtain ⟨x1, x2⟩ := Bool.and_eq_true_iff.mp e2
  obtain ⟨x3, x4⟩ := Bool.and_eq_true_iff.mp x2
  have tab : ∀ p ∈ tf, PySem.W.codeHdIn (partY h.get? n) (He.cT (partY h.get? n) p).1 (He.cT (partY h.get? n) p).2 = true ∧ ∃ o, h.get? (He.cT (partY h.get? n) p).2 = some o ∧ He.emptyTab o = true := fun p hp => by
    obtain ⟨y1, y2⟩ := Bool.and_eq_true_iff.mp (List.all_eq_true.mp x4 p hp)
    refine ⟨y1, ?_⟩
    split at y2
    · rename_i o ho
      exact ⟨o, ho, y2⟩
    · cases y2
  refine ⟨congrArg (fun z : ObY => z.1) e, x1, x3, congrArg (fun z : ObY => z.2.2) e, fun p hp => (tab p hp).1, fun p hp => ?_, fun p hp => ?_⟩
  · obtain ⟨_, o, q, z⟩ := tab p hp
    exact He.frT_none q z
  · obtain ⟨_, o, q, z⟩ := tab p hp
    rw [q, He.emptyTab_eq z]
def hookY : PySem.W.Hook where
  α := ObY
  obs := fun s => obsY n fa fn ts tf ex ini s.heap.get?
  val := fun w => (He.valT fn ts w, true, ini.map IniD.val)
  says := fun w h => ∃ K : PySem.W.Frag, K.In h ∧ SaysY fa fn ts tf ex ini w h K
  of := fun _ _ e => ⟨_, He.frT_in, says_of n fa fn ts tf ex ini e⟩
  keeps := fun _ _ _ ⟨K, hK, c⟩ k => ⟨K, PySem.W.Frag.In.keeps hK k, ⟨c.t, c.more, c.inb, c.i, c.hd, c.out, fun p hp => k _ _ (c.emp p hp)⟩⟩
def obY (s : PySem.W.SharedT) : ObY := obsY n fa fn ts tf ex ini (HandSHeadRun.getT s)
theorem obY_eq (s : PySem.W.SharedT) : obY n fa fn ts tf ex ini s = (hookY n fa fn ts tf ex ini).obs s.abs := by
  have e : HandSHeadRun.getT s = s.abs.heap.get? := funext (HandSHeadRun.getT_eq s)
  unfold obY
  rw [e]
  rfl
end
section
variable {fa : List He.Fa} {fn : List He.DefD} {ts : List He.Tab} {tf : List He.Defn} {ex : PySem.W.Frag → Bool} {ini : List IniD} {w : World} {h : Heap} {K : PySem.W.Frag}
theorem SaysY.init (c : SaysY fa fn ts tf ex ini w h K) (i : Nat) {d : IniD} (e : ini[i]? = some d := by rfl) : IniOk K d := by
  have z : (ini.map fun d => iniW K d.x)[i]? = (ini.map IniD.val)[i]? := by rw [c.i]
  rw [List.getElem?_map, List.getElem?_map, e] at z
  exact ini_ok (Option.some.inj z) (List.all_eq_true.mp c.inb d (List.mem_of_getElem? e))
theorem SaysY.fact (c : SaysY fa fn ts tf ex ini w h K) (i : Nat) {f : He.Fa} (e : fa[i]? = some f := by rfl) : f.ok K = true := c.t.d.fact i e
theorem SaysY.df (c : SaysY fa fn ts tf ex ini w h K) (i : Nat) {x : Str} {st : Stmt} (e : fn[i]? = some (dfd x st) := by rfl) : ∃ fd, Fun K x x st (He.ga K x) fd := by
  obtain ⟨fd, F⟩ := c.t.d.def_ i e
  exact ⟨fd, fun_of F⟩
end
/-- the goal behind the head, with tables; the part is told by the Hook -/
theorem walkE {l : PySem.W.OpenLaw} {n k : Nat} {q : Program} {loose : List Str} {XP : (Str → Option Value) → Heap → Prop} {YP : World → Heap → Prop} {d : DefRec} {x : Str} (hn : l.most = some n) (hn2 : n ≤ sizeLine) (hdf : d.params.defaults = []) (hr : Room k callerA)
    (F : ∀ (w : World) (mg : Str → Option Value) (fa : Addr) (h : Heap), YP w h → h.Ns mainGlobals mg → mg d.name = some (.ref fa) →
      ∃ (K : PySem.W.Frag) (fd : FuncData) (cs : List (Addr × Addr)) (sp : Sp), K.In h ∧ (∀ p ∈ cs, h.get? p.2 = some emptyT) ∧ (∀ p ∈ cs, K.lookup p.2 = none) ∧ (∀ p ∈ cs, PySem.W.CodeHd h p.1 p.2) ∧ (∀ (s : Shared) (u : Value), BindsTo s fd ⟨[u], []⟩ [(x, u)]) ∧
        (∀ (H : Hp) (a : Addr) (ns : List Int), ns.length ≤ n → (∀ p ∈ cs, H p.2 = some (.tbl #[])) → SqL K H a (ns.map V.int) → sp [.ref a] H (fun v _ => v = .bl true) fun _ _ _ => False) ∧
        ∀ base : Heap, K.In base → base.Ns mainGlobals mg → (∀ p ∈ cs, LamX.TabB base mg p.1 p.2) → FnG l.prog w K mg base k fa fd [x] sp) :
    PySem.W.WalkO q loose XP YP l.row.toRowW d [] (fun f vs => PySem.call f vs) := by
  refine Att.attach_callB hn hdf fun w s0 s1 mg mb fa o pm cd doc a vs ns G Y ho hd hcd hmg ha hi hlen hbits hg => ?_
  obtain ⟨K, fd, cs, sp, hK, t1, t2, t3, hb, hsp, hF⟩ := F w mg fa _ Y G.T.g hmg
  exact law_goesT hK G.T.g G.T.b G.T.builtins G.T.nolimit hg t1 t2 t3 G.T.bmain ha hi (Nat.le_trans hlen hn2) hr hF hb fun H hH hS => hsp H a ns hlen hH hS
end RS

/-! Law0: law_k00's law. Printed by lawgen.py. -/
namespace RS
open PySem PySem.Spec PyProof.Rows L2
/-- vs are exceptions of the classes Cs -/
def ErL (K : PySem.W.Frag) (H : Hp) : List V → List Addr → Prop
  | [], [] => True
  | v :: vs, C :: Cs => (∃ a, v = .ref a ∧ ExAt K H a (.ref C)) ∧ ErL K H vs Cs
  | _, _ => False
theorem ErL.same {K : PySem.W.Frag} {H H' : Hp} (s : Same H H') : ∀ {vs : List V} {Cs : List Addr}, ErL K H vs Cs → ErL K H' vs Cs
  | [], [], _ => True.intro
  | _ :: _, _ :: _, ⟨⟨a, e, h⟩, r⟩ => ⟨⟨a, e, h.same s⟩, ErL.same s r⟩
  | [], _ :: _, h => h
  | _ :: _, [], h => h
theorem ErL.append {K : PySem.W.Frag} {H : Hp} : ∀ {vs ws : List V} {Cs Ds : List Addr}, ErL K H vs Cs → ErL K H ws Ds → ErL K H (vs ++ ws) (Cs ++ Ds)
  | [], _, [], _, _, r => r
  | _ :: _, _, _ :: _, _, ⟨e, r⟩, q => ⟨e, ErL.append r q⟩
  | [], _, _ :: _, _, h, _ => h.elim
  | _ :: _, _, [], _, h, _ => h.elim
theorem ErL.snoc {K : PySem.W.Frag} {H H' : Hp} {a C : Addr} {vs : List V} {Cs : List Addr} (h : ErL K H vs Cs) (s : Same H H') (e : ExAt K H' a (.ref C)) : ErL K H' (vs ++ [.ref a]) (Cs ++ [C]) := ErL.append (ErL.same s h) ⟨⟨a, rfl, e⟩, True.intro⟩
theorem ErL.length {K : PySem.W.Frag} {H : Hp} : ∀ {vs : List V} {Cs : List Addr}, ErL K H vs Cs → vs.length = Cs.length
  | [], [], _ => rfl
  | _ :: _, _ :: _, ⟨_, r⟩ => congrArg Nat.succ (ErL.length r)
  | [], _ :: _, h => h.elim
  | _ :: _, [], h => h.elim
theorem ErL.get {K : PySem.W.Frag} {H : Hp} : ∀ {vs : List V} {Cs : List Addr} {i : Nat} {v : V}, ErL K H vs Cs → vs[i]? = some v → ∃ a C, v = .ref a ∧ Cs[i]? = some C ∧ ExAt K H a (.ref C)
  | _ :: _, C :: _, 0, _, ⟨⟨a, e, h⟩, _⟩, z => ⟨a, C, by simp at z; rw [← z]; exact e, rfl, h⟩
  | _ :: _, _ :: _, i + 1, _, ⟨_, r⟩, z => by
    obtain ⟨a, C, h1, h2, h3⟩ := ErL.get (i := i) r (by simpa using z)
    exact ⟨a, C, h1, by simpa using h2, h3⟩
  | [], _, _, _, _, z => by simp at z
  | _ :: _, [], _, _, h, _ => h.elim
theorem exS {K : PySem.W.Frag} {H : Hp} {C : Addr} {Q : VK} (k : ExK K C) (h : ∀ a H', Same H H' → ExAt K H' a (.ref C) → Q (.ref a) H') : ∀ a, H a = none → Q (.ref a) (upd H a (ExO (.ref C) a)) := fun a na => h a _ (same_new na) (.bare k upd_same)
theorem mkS {H : Hp} {C : Addr} {fs : List V → List (Str × V)} {n : Nat} {ws : List V} {Q : VK} (hl : ws.length = n) (hn : n ≤ 1000) (h : ∀ a d H', Same H H' → H' a = some (exo a C (some d)) → H' d = some (exd d (fs ws)) → Q (.ref a) H') :
    ws.length ≤ 1000 ∧ ∀ a, H a = none → spIni C fs n (.ref a :: ws) (upd H a (exo a C none)) (fun v H2 => v = .non ∧ Q (.ref a) H2) E0 :=
  ⟨by omega, fun a na => ⟨a, ws, rfl, hl, upd_same, fun d H' nd ne ea ed st => ⟨rfl, h a d H' (fun b o e => st b o (ne_of_none e na) (by rw [upd_ne (ne_of_none e na)]; exact e)) ea ed⟩⟩⟩
theorem mkSK {H : Hp} {C : Addr} {fs : List V → List (Str × V)} {n : Nat} {ks : List Str} {π : List Nat} {zs ws : List V} {Q : VK} (hk : zs.length = ks.length) (e : permL π zs = ws) (hl : ws.length = n) (h : ∀ a d H', Same H H' → H' a = some (exo a C (some d)) → H' d = some (exd d (fs ws)) → Q (.ref a) H') :
    zs.length = ks.length ∧ ∀ a, H a = none → spIni C fs n (.ref a :: permL π zs) (upd H a (exo a C none)) (fun v H2 => v = .non ∧ Q (.ref a) H2) E0 :=
  ⟨hk, fun a na => by rw [e]; exact ⟨a, ws, rfl, hl, upd_same, fun d H' nd ne ea ed st => ⟨rfl, h a d H' (fun b o e => st b o (ne_of_none e na) (by rw [upd_ne (ne_of_none e na)]; exact e)) ea ed⟩⟩⟩
theorem fldS {K : PySem.W.Frag} {H : Hp} {a C d : Addr} {n : Str} {fs : List (Str × V)} {v : V} {Q : VK} (k : ExK K C) (no : PySem.W.findIn K (.ref C) n = some none) (h1 : H a = some (exo a C (some d))) (h2 : H d = some (exd d fs)) (hl : fs.lookup n = some v) (q : Q v H) : rExF K n (.ref a) H Q := ⟨a, C, d, fs, v, rfl, k, no, h1, h2, hl, q⟩
theorem eqI (k j : Nat) : xor false (decide (V.int (0 + (k : Int)) = V.int (j : Int))) = (k == j) := by
  have h : (V.int (0 + (k : Int)) = V.int (j : Int)) ↔ k = j := ⟨fun h => by injection h with h; omega, fun h => by rw [h, Int.zero_add]⟩
  rw [Bool.eq_iff_iff]; simp [h]; omega
theorem fl1 (fl : Nat → Bool) (n : Nat) : flL fl n ++ [.bl (fl n)] = flL fl (n + 1) := by
  unfold flL; simp [List.range_succ]
def flD (fl : Nat → Bool) (n : Nat) : List PyData := (List.range n).map fun j => .bool (fl j)
theorem bls_dp {K : PySem.W.Frag} {H : Hp} (fl : Nat → Bool) : ∀ js : List Nat, DpAll K H (js.map fun j => V.bl (fl j)) (js.map fun j => PyData.bool (fl j))
  | [] => .nil
  | _ :: js => .cons (.bl _) (bls_dp fl js)
theorem flDp {K : PySem.W.Frag} {H : Hp} (fl : Nat → Bool) (n : Nat) : DpAll K H (flL fl n) (flD fl n) := bls_dp fl _
theorem Okd.bool {b : Bool} {D W : Nat} : Okd (.bool b) D W := by
  refine ⟨by cases b <;> rfl, by cases b <;> rfl, by show 0 ≤ D; omega, by cases b <;> rfl, ?_⟩
  show (0 : Nat) ≤ W; omega
theorem flOk (fl : Nat → Bool) (n : Nat) : Okd (.list (flD fl n)) 1 ((flD fl n).length * (0 + 1)) := OkdA.lst (OkdA.all _ fun d hd => by
  obtain ⟨j, _, rfl⟩ := List.mem_map.mp hd
  exact Okd.bool)
theorem lk1 {f : Str} {v : V} : List.lookup f [(f, v)] = some v := by simp [List.lookup]
theorem lk2n {v u : V} : List.lookup ("name" : Str) (fs2 "name" "word" [v, u]) = some v := by
  show List.lookup ("name" : Str) [(("word" : Str), u), (("name" : Str), v)] = some v
  have e : (("name" : Str) == ("word" : Str)) = false := by decide +kernel
  simp [List.lookup, e]
theorem lk2w {v u : V} : List.lookup ("word" : Str) (fs2 "name" "word" [v, u]) = some u := by
  show List.lookup ("word" : Str) [(("word" : Str), u), (("name" : Str), v)] = some u
  simp [List.lookup]
theorem rep_dt {K : PySem.W.Frag} {H : Hp} {v : V} {d : PyData} (h : Dt K H v d) : ∀ n : Nat, DtAll K H (List.replicate n v) (List.replicate n d)
  | 0 => .nil
  | n + 1 => .cons h (rep_dt h n)
theorem rep_ok {i : Int} (h : i.natAbs < 1000) (n : Nat) : OkdA (List.replicate n (PyData.int i)) 0 ((List.replicate n (PyData.int i)).length * (64 + 1)) := OkdA.all _ fun d hd => by
  rw [(List.mem_replicate.mp hd).2]
  exact Okd.int (Nat.lt_trans h (by decide))
theorem Same.stt {H H' : Hp} {d g c : Addr} {T : Nat} (S : Stt H d g c T) (e : Same H H') : Stt H' d g c T := S.keep e
def Fr0k (a d : Addr) (σ : L2.St) : Prop := ∃ v2 v3 v4 v5 v6 v7 v8 v9 v10 v11 v12 : Option V, σ = [some (.ref a), some (.ref d), v2, v3, v4, v5, v6, v7, v8, v9, v10, v11, v12]
def spLaw (K : PySem.W.Frag) : Sp := fun vs H Q _ => ∃ (a : Addr) (ns : List Int), vs = [.ref a] ∧ SqL K H a (ns.map V.int) ∧ ns.length ≤ 63 ∧ ∀ H', Q (.bl true) H'
theorem sc_law : FnScope ["script", "state", "turn", "made", "base", "told", "both", "text", "number", "other", "at", "error", "place"] ["script"] (defScope s_law) := ⟨rfl, rfl, rfl, by decide +kernel, rfl, by decide +kernel, by decide +kernel⟩
section
variable {P : Program} {w : World} {K : PySem.W.Frag} {mg : Str → Option Value} {base : Heap}
theorem ok_law {f C_TongueError C_Astray C_BadBlock C_BadBook C_BadContext C_BadDeclaration C_BadDeed C_BadErased C_BadImage C_BadLines C_BadMaker C_BadModule C_BadMoments C_BadName C_BadNumber C_BadObject C_BadPlace C_BadRule C_BadSeal C_BadSize C_BadState C_BadSurface C_BadTerm C_BadText C_BadTexts C_BadTree C_BadType C_BadUses C_BadWord C_BadWorld C_Bent C_Lacking C_NameTwice C_NotEnded C_NotShown C_NotTaken C_NothingDone C_NothingUndone C_OtherCode C_Refused C_Ring C_Sealed C_TooMany C_TooSmall C_Unlike C_Untyped C_Used : Addr} {fd : FuncData} (F : Fun K "law" "law" s_law f fd)
    (n_len : mg "len" = none) (n_min : mg "min" = none) (n_range : mg "range" = none) (n_repr : mg "repr" = none) (n_enumerate : mg "enumerate" = none) (n_isinstance : mg "isinstance" = none) (n_ValueError : mg "ValueError" = none)
    (D_law_begun : Df P w K mg base "_law_begun" 1 ["script"] (spBegun K)) (D_law_draw : Df P w K mg base "_law_draw" 2 ["state", "size_here"] spDraw) (D_law_pick : Df P w K mg base "_law_pick" 3 ["state", "several"] spPick)
    (D_law_k00_flags : Df P w K mg base "_law_k00_flags" 1 ["error"] (spFlags K [C_Astray, C_BadBlock, C_BadBook, C_BadContext, C_BadDeclaration, C_BadDeed, C_BadErased, C_BadImage, C_BadLines, C_BadMaker, C_BadModule, C_BadMoments, C_BadName, C_BadNumber, C_BadObject, C_BadPlace, C_BadRule, C_BadSeal, C_BadSize, C_BadState, C_BadSurface, C_BadTerm, C_BadText, C_BadTexts, C_BadTree, C_BadType, C_BadUses, C_BadWord, C_BadWorld, C_Bent, C_Lacking, C_NameTwice, C_NotEnded, C_NotShown, C_NotTaken, C_NothingDone, C_NothingUndone, C_OtherCode, C_Refused, C_Ring, C_Sealed, C_TooMany, C_TooSmall, C_Unlike, C_Untyped, C_Used]))
    (g_TongueError : mg "TongueError" = some (.ref C_TongueError)) (k_TongueError : ExK K C_TongueError) (x_TongueError : PySem.W.excIn K C_TongueError [.type "ValueError", .type "Exception", .type "BaseException", .type "object"] "ValueError.__new__" = true) (q_TongueError : PySem.W.keepIn K (.ref C_TongueError) = true)
    (g_Astray : mg "Astray" = some (.ref C_Astray)) (k_Astray : ExK K C_Astray) (x_Astray : PySem.W.excIn K C_Astray [.type "ValueError", .type "Exception", .type "BaseException", .type "object"] "ValueError.__new__" = true) (q_Astray : PySem.W.keepIn K (.ref C_Astray) = true)
    (g_BadBlock : mg "BadBlock" = some (.ref C_BadBlock)) (k_BadBlock : ExK K C_BadBlock) (x_BadBlock : PySem.W.excIn K C_BadBlock [.type "ValueError", .type "Exception", .type "BaseException", .type "object"] "ValueError.__new__" = true) (q_BadBlock : PySem.W.keepIn K (.ref C_BadBlock) = true)
    (g_BadBook : mg "BadBook" = some (.ref C_BadBook)) (k_BadBook : ExK K C_BadBook) (x_BadBook : PySem.W.excIn K C_BadBook [.type "ValueError", .type "Exception", .type "BaseException", .type "object"] "ValueError.__new__" = true) (q_BadBook : PySem.W.keepIn K (.ref C_BadBook) = true)
    (g_BadContext : mg "BadContext" = some (.ref C_BadContext)) (k_BadContext : ExK K C_BadContext) (x_BadContext : PySem.W.excIn K C_BadContext [.type "ValueError", .type "Exception", .type "BaseException", .type "object"] "ValueError.__new__" = true) (q_BadContext : PySem.W.keepIn K (.ref C_BadContext) = true)
    (g_BadDeclaration : mg "BadDeclaration" = some (.ref C_BadDeclaration)) (k_BadDeclaration : ExK K C_BadDeclaration) (x_BadDeclaration : PySem.W.excIn K C_BadDeclaration [.type "ValueError", .type "Exception", .type "BaseException", .type "object"] "ValueError.__new__" = true) (q_BadDeclaration : PySem.W.keepIn K (.ref C_BadDeclaration) = true)
    (g_BadDeed : mg "BadDeed" = some (.ref C_BadDeed)) (k_BadDeed : ExK K C_BadDeed) (x_BadDeed : PySem.W.excIn K C_BadDeed [.type "ValueError", .type "Exception", .type "BaseException", .type "object"] "ValueError.__new__" = true) (q_BadDeed : PySem.W.keepIn K (.ref C_BadDeed) = true)
    (g_BadErased : mg "BadErased" = some (.ref C_BadErased)) (k_BadErased : ExK K C_BadErased) (x_BadErased : PySem.W.excIn K C_BadErased [.type "ValueError", .type "Exception", .type "BaseException", .type "object"] "ValueError.__new__" = true) (q_BadErased : PySem.W.keepIn K (.ref C_BadErased) = true)
    (g_BadImage : mg "BadImage" = some (.ref C_BadImage)) (k_BadImage : ExK K C_BadImage) (x_BadImage : PySem.W.excIn K C_BadImage [.type "ValueError", .type "Exception", .type "BaseException", .type "object"] "ValueError.__new__" = true) (q_BadImage : PySem.W.keepIn K (.ref C_BadImage) = true)
    (g_BadLines : mg "BadLines" = some (.ref C_BadLines)) (k_BadLines : ExK K C_BadLines) (Mv_BadLines : MkX P w K mg base "BadLines" C_BadLines 1 ["self", "index"] (spIni C_BadLines (fs1 "index") 1) ["index"] [0]) (no_BadLines_index : PySem.W.findIn K (.ref C_BadLines) "index" = some none)
    (g_BadMaker : mg "BadMaker" = some (.ref C_BadMaker)) (k_BadMaker : ExK K C_BadMaker) (x_BadMaker : PySem.W.excIn K C_BadMaker [.type "ValueError", .type "Exception", .type "BaseException", .type "object"] "ValueError.__new__" = true) (q_BadMaker : PySem.W.keepIn K (.ref C_BadMaker) = true)
    (g_BadModule : mg "BadModule" = some (.ref C_BadModule)) (k_BadModule : ExK K C_BadModule) (x_BadModule : PySem.W.excIn K C_BadModule [.type "ValueError", .type "Exception", .type "BaseException", .type "object"] "ValueError.__new__" = true) (q_BadModule : PySem.W.keepIn K (.ref C_BadModule) = true)
    (g_BadMoments : mg "BadMoments" = some (.ref C_BadMoments)) (k_BadMoments : ExK K C_BadMoments) (x_BadMoments : PySem.W.excIn K C_BadMoments [.type "ValueError", .type "Exception", .type "BaseException", .type "object"] "ValueError.__new__" = true) (q_BadMoments : PySem.W.keepIn K (.ref C_BadMoments) = true)
    (g_BadName : mg "BadName" = some (.ref C_BadName)) (k_BadName : ExK K C_BadName) (x_BadName : PySem.W.excIn K C_BadName [.type "ValueError", .type "Exception", .type "BaseException", .type "object"] "ValueError.__new__" = true) (q_BadName : PySem.W.keepIn K (.ref C_BadName) = true)
    (g_BadNumber : mg "BadNumber" = some (.ref C_BadNumber)) (k_BadNumber : ExK K C_BadNumber) (x_BadNumber : PySem.W.excIn K C_BadNumber [.type "ValueError", .type "Exception", .type "BaseException", .type "object"] "ValueError.__new__" = true) (q_BadNumber : PySem.W.keepIn K (.ref C_BadNumber) = true)
    (g_BadObject : mg "BadObject" = some (.ref C_BadObject)) (k_BadObject : ExK K C_BadObject) (x_BadObject : PySem.W.excIn K C_BadObject [.type "ValueError", .type "Exception", .type "BaseException", .type "object"] "ValueError.__new__" = true) (q_BadObject : PySem.W.keepIn K (.ref C_BadObject) = true)
    (g_BadPlace : mg "BadPlace" = some (.ref C_BadPlace)) (k_BadPlace : ExK K C_BadPlace) (x_BadPlace : PySem.W.excIn K C_BadPlace [.type "ValueError", .type "Exception", .type "BaseException", .type "object"] "ValueError.__new__" = true) (q_BadPlace : PySem.W.keepIn K (.ref C_BadPlace) = true)
    (g_BadRule : mg "BadRule" = some (.ref C_BadRule)) (k_BadRule : ExK K C_BadRule) (x_BadRule : PySem.W.excIn K C_BadRule [.type "ValueError", .type "Exception", .type "BaseException", .type "object"] "ValueError.__new__" = true) (q_BadRule : PySem.W.keepIn K (.ref C_BadRule) = true)
    (g_BadSeal : mg "BadSeal" = some (.ref C_BadSeal)) (k_BadSeal : ExK K C_BadSeal) (x_BadSeal : PySem.W.excIn K C_BadSeal [.type "ValueError", .type "Exception", .type "BaseException", .type "object"] "ValueError.__new__" = true) (q_BadSeal : PySem.W.keepIn K (.ref C_BadSeal) = true)
    (g_BadSize : mg "BadSize" = some (.ref C_BadSize)) (k_BadSize : ExK K C_BadSize) (x_BadSize : PySem.W.excIn K C_BadSize [.type "ValueError", .type "Exception", .type "BaseException", .type "object"] "ValueError.__new__" = true) (q_BadSize : PySem.W.keepIn K (.ref C_BadSize) = true)
    (g_BadState : mg "BadState" = some (.ref C_BadState)) (k_BadState : ExK K C_BadState) (x_BadState : PySem.W.excIn K C_BadState [.type "ValueError", .type "Exception", .type "BaseException", .type "object"] "ValueError.__new__" = true) (q_BadState : PySem.W.keepIn K (.ref C_BadState) = true)
    (g_BadSurface : mg "BadSurface" = some (.ref C_BadSurface)) (k_BadSurface : ExK K C_BadSurface) (x_BadSurface : PySem.W.excIn K C_BadSurface [.type "ValueError", .type "Exception", .type "BaseException", .type "object"] "ValueError.__new__" = true) (q_BadSurface : PySem.W.keepIn K (.ref C_BadSurface) = true)
    (g_BadTerm : mg "BadTerm" = some (.ref C_BadTerm)) (k_BadTerm : ExK K C_BadTerm) (x_BadTerm : PySem.W.excIn K C_BadTerm [.type "ValueError", .type "Exception", .type "BaseException", .type "object"] "ValueError.__new__" = true) (q_BadTerm : PySem.W.keepIn K (.ref C_BadTerm) = true)
    (g_BadText : mg "BadText" = some (.ref C_BadText)) (k_BadText : ExK K C_BadText) (Mv_BadText : MkX P w K mg base "BadText" C_BadText 1 ["self", "at"] (spIni C_BadText (fs1 "at") 1) ["at"] [0]) (no_BadText_at : PySem.W.findIn K (.ref C_BadText) "at" = some none)
    (g_BadTexts : mg "BadTexts" = some (.ref C_BadTexts)) (k_BadTexts : ExK K C_BadTexts) (Mv_BadTexts : MkX P w K mg base "BadTexts" C_BadTexts 1 ["self", "index"] (spIni C_BadTexts (fs1 "index") 1) ["index"] [0]) (no_BadTexts_index : PySem.W.findIn K (.ref C_BadTexts) "index" = some none)
    (g_BadTree : mg "BadTree" = some (.ref C_BadTree)) (k_BadTree : ExK K C_BadTree) (x_BadTree : PySem.W.excIn K C_BadTree [.type "ValueError", .type "Exception", .type "BaseException", .type "object"] "ValueError.__new__" = true) (q_BadTree : PySem.W.keepIn K (.ref C_BadTree) = true)
    (g_BadType : mg "BadType" = some (.ref C_BadType)) (k_BadType : ExK K C_BadType) (x_BadType : PySem.W.excIn K C_BadType [.type "ValueError", .type "Exception", .type "BaseException", .type "object"] "ValueError.__new__" = true) (q_BadType : PySem.W.keepIn K (.ref C_BadType) = true)
    (g_BadUses : mg "BadUses" = some (.ref C_BadUses)) (k_BadUses : ExK K C_BadUses) (x_BadUses : PySem.W.excIn K C_BadUses [.type "ValueError", .type "Exception", .type "BaseException", .type "object"] "ValueError.__new__" = true) (q_BadUses : PySem.W.keepIn K (.ref C_BadUses) = true)
    (g_BadWord : mg "BadWord" = some (.ref C_BadWord)) (k_BadWord : ExK K C_BadWord) (x_BadWord : PySem.W.excIn K C_BadWord [.type "ValueError", .type "Exception", .type "BaseException", .type "object"] "ValueError.__new__" = true) (q_BadWord : PySem.W.keepIn K (.ref C_BadWord) = true)
    (g_BadWorld : mg "BadWorld" = some (.ref C_BadWorld)) (k_BadWorld : ExK K C_BadWorld) (x_BadWorld : PySem.W.excIn K C_BadWorld [.type "ValueError", .type "Exception", .type "BaseException", .type "object"] "ValueError.__new__" = true) (q_BadWorld : PySem.W.keepIn K (.ref C_BadWorld) = true)
    (g_Bent : mg "Bent" = some (.ref C_Bent)) (k_Bent : ExK K C_Bent) (Mv_Bent : MkX P w K mg base "Bent" C_Bent 1 ["self", "line"] (spIni C_Bent (fs1 "line") 1) ["line"] [0]) (no_Bent_line : PySem.W.findIn K (.ref C_Bent) "line" = some none)
    (g_Lacking : mg "Lacking" = some (.ref C_Lacking)) (k_Lacking : ExK K C_Lacking) (Mv_Lacking : MkX P w K mg base "Lacking" C_Lacking 1 ["self", "name"] (spIni C_Lacking (fs1 "name") 1) ["name"] [0]) (no_Lacking_name : PySem.W.findIn K (.ref C_Lacking) "name" = some none)
    (g_NameTwice : mg "NameTwice" = some (.ref C_NameTwice)) (k_NameTwice : ExK K C_NameTwice) (Mv_NameTwice : MkX P w K mg base "NameTwice" C_NameTwice 1 ["self", "name"] (spIni C_NameTwice (fs1 "name") 1) ["name"] [0]) (no_NameTwice_name : PySem.W.findIn K (.ref C_NameTwice) "name" = some none)
    (g_NotEnded : mg "NotEnded" = some (.ref C_NotEnded)) (k_NotEnded : ExK K C_NotEnded) (x_NotEnded : PySem.W.excIn K C_NotEnded [.type "ValueError", .type "Exception", .type "BaseException", .type "object"] "ValueError.__new__" = true) (q_NotEnded : PySem.W.keepIn K (.ref C_NotEnded) = true)
    (g_NotShown : mg "NotShown" = some (.ref C_NotShown)) (k_NotShown : ExK K C_NotShown) (x_NotShown : PySem.W.excIn K C_NotShown [.type "ValueError", .type "Exception", .type "BaseException", .type "object"] "ValueError.__new__" = true) (q_NotShown : PySem.W.keepIn K (.ref C_NotShown) = true)
    (g_NotTaken : mg "NotTaken" = some (.ref C_NotTaken)) (k_NotTaken : ExK K C_NotTaken) (Mv_NotTaken : MkX P w K mg base "NotTaken" C_NotTaken 1 ["self", "name"] (spIni C_NotTaken (fs1 "name") 1) ["name"] [0]) (no_NotTaken_name : PySem.W.findIn K (.ref C_NotTaken) "name" = some none)
    (g_NothingDone : mg "NothingDone" = some (.ref C_NothingDone)) (k_NothingDone : ExK K C_NothingDone) (x_NothingDone : PySem.W.excIn K C_NothingDone [.type "ValueError", .type "Exception", .type "BaseException", .type "object"] "ValueError.__new__" = true) (q_NothingDone : PySem.W.keepIn K (.ref C_NothingDone) = true)
    (g_NothingUndone : mg "NothingUndone" = some (.ref C_NothingUndone)) (k_NothingUndone : ExK K C_NothingUndone) (x_NothingUndone : PySem.W.excIn K C_NothingUndone [.type "ValueError", .type "Exception", .type "BaseException", .type "object"] "ValueError.__new__" = true) (q_NothingUndone : PySem.W.keepIn K (.ref C_NothingUndone) = true)
    (g_OtherCode : mg "OtherCode" = some (.ref C_OtherCode)) (k_OtherCode : ExK K C_OtherCode) (Mv_OtherCode : MkX P w K mg base "OtherCode" C_OtherCode 1 ["self", "own"] (spIni C_OtherCode (fs1 "own") 1) ["own"] [0]) (no_OtherCode_own : PySem.W.findIn K (.ref C_OtherCode) "own" = some none)
    (g_Refused : mg "Refused" = some (.ref C_Refused)) (k_Refused : ExK K C_Refused) (Mv_Refused : MkX P w K mg base "Refused" C_Refused 1 ["self", "name", "word"] (spIni C_Refused (fs2 "name" "word") 2) ["word", "name"] [1, 0]) (no_Refused_name : PySem.W.findIn K (.ref C_Refused) "name" = some none) (no_Refused_word : PySem.W.findIn K (.ref C_Refused) "word" = some none)
    (g_Ring : mg "Ring" = some (.ref C_Ring)) (k_Ring : ExK K C_Ring) (Mv_Ring : MkX P w K mg base "Ring" C_Ring 1 ["self", "module"] (spIni C_Ring (fs1 "module") 1) ["module"] [0]) (no_Ring_module : PySem.W.findIn K (.ref C_Ring) "module" = some none)
    (g_Sealed : mg "Sealed" = some (.ref C_Sealed)) (k_Sealed : ExK K C_Sealed) (x_Sealed : PySem.W.excIn K C_Sealed [.type "ValueError", .type "Exception", .type "BaseException", .type "object"] "ValueError.__new__" = true) (q_Sealed : PySem.W.keepIn K (.ref C_Sealed) = true)
    (g_TooMany : mg "TooMany" = some (.ref C_TooMany)) (k_TooMany : ExK K C_TooMany) (Mv_TooMany : MkX P w K mg base "TooMany" C_TooMany 1 ["self", "most"] (spIni C_TooMany (fs1 "most") 1) ["most"] [0]) (no_TooMany_most : PySem.W.findIn K (.ref C_TooMany) "most" = some none)
    (g_TooSmall : mg "TooSmall" = some (.ref C_TooSmall)) (k_TooSmall : ExK K C_TooSmall) (Mv_TooSmall : MkX P w K mg base "TooSmall" C_TooSmall 1 ["self", "least"] (spIni C_TooSmall (fs1 "least") 1) ["least"] [0]) (no_TooSmall_least : PySem.W.findIn K (.ref C_TooSmall) "least" = some none)
    (g_Unlike : mg "Unlike" = some (.ref C_Unlike)) (k_Unlike : ExK K C_Unlike) (Mv_Unlike : MkX P w K mg base "Unlike" C_Unlike 1 ["self", "name"] (spIni C_Unlike (fs1 "name") 1) ["name"] [0]) (no_Unlike_name : PySem.W.findIn K (.ref C_Unlike) "name" = some none)
    (g_Untyped : mg "Untyped" = some (.ref C_Untyped)) (k_Untyped : ExK K C_Untyped) (Mv_Untyped : MkX P w K mg base "Untyped" C_Untyped 1 ["self", "word"] (spIni C_Untyped (fs1 "word") 1) ["word"] [0]) (no_Untyped_word : PySem.W.findIn K (.ref C_Untyped) "word" = some none)
    (g_Used : mg "Used" = some (.ref C_Used)) (k_Used : ExK K C_Used) (x_Used : PySem.W.excIn K C_Used [.type "ValueError", .type "Exception", .type "BaseException", .type "object"] "ValueError.__new__" = true) (q_Used : PySem.W.keepIn K (.ref C_Used) = true)
    (kit1 : ∀ (i : Nat) (C : Addr), ([C_Astray, C_BadBlock, C_BadBook, C_BadContext, C_BadDeclaration, C_BadDeed, C_BadErased, C_BadImage, C_BadLines, C_BadMaker, C_BadModule, C_BadMoments, C_BadName, C_BadNumber, C_BadObject, C_BadPlace, C_BadRule, C_BadSeal, C_BadSize, C_BadState, C_BadSurface, C_BadTerm, C_BadText, C_BadTexts, C_BadTree, C_BadType, C_BadUses, C_BadWord, C_BadWorld, C_Bent, C_Lacking, C_NameTwice, C_NotEnded, C_NotShown, C_NotTaken, C_NothingDone, C_NothingUndone, C_OtherCode, C_Refused, C_Ring, C_Sealed, C_TooMany, C_TooSmall, C_Unlike, C_Untyped, C_Used] : List Addr)[i]? = some C → ∀ (j : Nat) (D : Addr), ([C_Astray, C_BadBlock, C_BadBook, C_BadContext, C_BadDeclaration, C_BadDeed, C_BadErased, C_BadImage, C_BadLines, C_BadMaker, C_BadModule, C_BadMoments, C_BadName, C_BadNumber, C_BadObject, C_BadPlace, C_BadRule, C_BadSeal, C_BadSize, C_BadState, C_BadSurface, C_BadTerm, C_BadText, C_BadTexts, C_BadTree, C_BadType, C_BadUses, C_BadWord, C_BadWorld, C_Bent, C_Lacking, C_NameTwice, C_NotEnded, C_NotShown, C_NotTaken, C_NothingDone, C_NothingUndone, C_OtherCode, C_Refused, C_Ring, C_Sealed, C_TooMany, C_TooSmall, C_Unlike, C_Untyped, C_Used] : List Addr)[j]? = some D → PySem.W.kitOne K (.ref C) (.ref D) = some (j == i))
    (kitT : ∀ (j : Nat) (D : Addr), ([C_Astray, C_BadBlock, C_BadBook, C_BadContext, C_BadDeclaration, C_BadDeed, C_BadErased, C_BadImage, C_BadLines, C_BadMaker, C_BadModule, C_BadMoments, C_BadName, C_BadNumber, C_BadObject, C_BadPlace, C_BadRule, C_BadSeal, C_BadSize, C_BadState, C_BadSurface, C_BadTerm, C_BadText, C_BadTexts, C_BadTree, C_BadType, C_BadUses, C_BadWord, C_BadWorld, C_Bent, C_Lacking, C_NameTwice, C_NotEnded, C_NotShown, C_NotTaken, C_NothingDone, C_NothingUndone, C_OtherCode, C_Refused, C_Ring, C_Sealed, C_TooMany, C_TooSmall, C_Unlike, C_Untyped, C_Used] : List Addr)[j]? = some D → PySem.W.kitOne K (.ref C_TongueError) (.ref D) = some false)
    (kitU : ∀ (i : Nat) (C : Addr), ([C_Astray, C_BadBlock, C_BadBook, C_BadContext, C_BadDeclaration, C_BadDeed, C_BadErased, C_BadImage, C_BadLines, C_BadMaker, C_BadModule, C_BadMoments, C_BadName, C_BadNumber, C_BadObject, C_BadPlace, C_BadRule, C_BadSeal, C_BadSize, C_BadState, C_BadSurface, C_BadTerm, C_BadText, C_BadTexts, C_BadTree, C_BadType, C_BadUses, C_BadWord, C_BadWorld, C_Bent, C_Lacking, C_NameTwice, C_NotEnded, C_NotShown, C_NotTaken, C_NothingDone, C_NothingUndone, C_OtherCode, C_Refused, C_Ring, C_Sealed, C_TooMany, C_TooSmall, C_Unlike, C_Untyped, C_Used] : List Addr)[i]? = some C → PySem.W.kitOne K (.ref C) (.ref C_TongueError) = some true ∧ PySem.W.kitOne K (.ref C) (.type "ValueError") = some true)
    (kTV : PySem.W.kitOne K (.ref C_TongueError) (.type "ValueError") = some true) (kVT : PySem.W.kitOne K (.type "ValueError") (.ref C_TongueError) = some false) :
    FnG P w K mg base 4 f fd ["script"] (spLaw K) := by
  have Mk_BadLines := Mv_BadLines
  have Mk_BadText := Mv_BadText
  have Mk_BadTexts := Mv_BadTexts
  have Mk_Bent := Mv_Bent
  have Mk_Lacking := Mv_Lacking
  have Mk_NameTwice := Mv_NameTwice
  have Mk_NotTaken := Mv_NotTaken
  have Mk_OtherCode := Mv_OtherCode
  have Mk_Refused := Mv_Refused
  have Mk_Ring := Mv_Ring
  have Mk_TooMany := Mv_TooMany
  have Mk_TooSmall := Mv_TooSmall
  have Mk_Unlike := Mv_Unlike
  have Mk_Untyped := Mv_Untyped
  refine okG F sc_law (fun vs H Q E h => ?_) (fun cdv A outer s H vs Q E hg hr h => ?_)
  · obtain ⟨a, ns, rfl, _⟩ := h; rfl
  · obtain ⟨a, ns, rfl, hS, hl, k⟩ := h
    have nd := sc_law.nd
    refine ⟨_, (pss_cons (ps_set (i := 1) nd rfl (Or.inl rfl) (pe_df D_law_begun hr (by omega) (pa_cons (pv 0) pa_nil)))
      (pss_cons (ps_for PassesOwn.never rfl (pi_range1 rfl n_range (pa_cons (pe_op uAdd pe_int (pe_callB (call_min2 rfl) (by rfl) n_min (by decide +kernel) (pa_cons (pe_callB uLen (by rfl) n_len (by decide +kernel) (pa_cons (pv 0) pa_nil)) (pa_cons pe_int pa_nil)))) pa_nil)) (pg_name (i := 2) nd rfl (Or.inl rfl))
        (pss_cons (ps_par3 (i := 7) (j := 8) (l := 9) rfl nd rfl rfl rfl (by decide) (by decide) (by decide) rfl rfl rfl (pa_cons (pe_df D_law_pick hr (by omega) (pa_cons (pv 1) (pa_cons (pe_lstN (pa_cons pe_str (pa_cons pe_str (pa_cons pe_str pa_nil)))) pa_nil))) (pa_cons (pe_df D_law_draw hr (by omega) (pa_cons (pv 1) (pa_cons pe_int pa_nil))) (pa_cons (pe_df D_law_draw hr (by omega) (pa_cons (pv 1) (pa_cons pe_int pa_nil))) pa_nil))) rfl)
        (pss_cons (ps_set (i := 3) nd rfl (Or.inl rfl) (pe_lstN (pa_cons (pe_exc1 PySem.F.excBase_ValueError x_Astray g_Astray q_Astray rfl (pv 7)) (pa_cons (pe_exc1 PySem.F.excBase_ValueError x_BadBlock g_BadBlock q_BadBlock rfl (pv 7)) (pa_cons (pe_exc1 PySem.F.excBase_ValueError x_BadBook g_BadBook q_BadBook rfl (pv 7)) (pa_cons (pe_exc1 PySem.F.excBase_ValueError x_BadContext g_BadContext q_BadContext rfl (pv 7)) (pa_cons (pe_exc1 PySem.F.excBase_ValueError x_BadDeclaration g_BadDeclaration q_BadDeclaration rfl (pv 7)) (pa_cons (pe_exc1 PySem.F.excBase_ValueError x_BadDeed g_BadDeed q_BadDeed rfl (pv 7)) pa_nil))))))))
        (pss_cons (ps_set (i := 3) nd rfl (Or.inl rfl) (pe_op uAdd (pv 3) (pe_lstN (pa_cons (pe_exc1 PySem.F.excBase_ValueError x_BadErased g_BadErased q_BadErased rfl (pv 7)) (pa_cons (pe_exc1 PySem.F.excBase_ValueError x_BadImage g_BadImage q_BadImage rfl (pv 7)) (pa_cons (pe_mkV Mv_BadLines hr (by omega) (pa_cons (pv 8) pa_nil)) (pa_cons (pe_exc1 PySem.F.excBase_ValueError x_BadMaker g_BadMaker q_BadMaker rfl (pv 7)) (pa_cons (pe_exc1 PySem.F.excBase_ValueError x_BadModule g_BadModule q_BadModule rfl (pv 7)) (pa_cons (pe_exc1 PySem.F.excBase_ValueError x_BadMoments g_BadMoments q_BadMoments rfl (pv 7)) pa_nil)))))))))
        (pss_cons (ps_set (i := 3) nd rfl (Or.inl rfl) (pe_op uAdd (pv 3) (pe_lstN (pa_cons (pe_exc1 PySem.F.excBase_ValueError x_BadName g_BadName q_BadName rfl (pv 7)) (pa_cons (pe_exc1 PySem.F.excBase_ValueError x_BadNumber g_BadNumber q_BadNumber rfl (pv 7)) (pa_cons (pe_exc1 PySem.F.excBase_ValueError x_BadObject g_BadObject q_BadObject rfl (pv 7)) (pa_cons (pe_exc1 PySem.F.excBase_ValueError x_BadPlace g_BadPlace q_BadPlace rfl (pv 7)) (pa_cons (pe_exc1 PySem.F.excBase_ValueError x_BadRule g_BadRule q_BadRule rfl (pv 7)) (pa_cons (pe_exc1 PySem.F.excBase_ValueError x_BadSeal g_BadSeal q_BadSeal rfl (pv 7)) pa_nil)))))))))
        (pss_cons (ps_set (i := 3) nd rfl (Or.inl rfl) (pe_op uAdd (pv 3) (pe_lstN (pa_cons (pe_exc1 PySem.F.excBase_ValueError x_BadSize g_BadSize q_BadSize rfl (pv 7)) (pa_cons (pe_exc1 PySem.F.excBase_ValueError x_BadState g_BadState q_BadState rfl (pv 7)) (pa_cons (pe_exc1 PySem.F.excBase_ValueError x_BadSurface g_BadSurface q_BadSurface rfl (pv 7)) (pa_cons (pe_exc1 PySem.F.excBase_ValueError x_BadTerm g_BadTerm q_BadTerm rfl (pv 7)) (pa_cons (pe_mkV Mv_BadText hr (by omega) (pa_cons (pv 8) pa_nil)) (pa_cons (pe_mkV Mv_BadTexts hr (by omega) (pa_cons (pv 8) pa_nil)) pa_nil)))))))))
        (pss_cons (ps_set (i := 3) nd rfl (Or.inl rfl) (pe_op uAdd (pv 3) (pe_lstN (pa_cons (pe_exc1 PySem.F.excBase_ValueError x_BadTree g_BadTree q_BadTree rfl (pv 7)) (pa_cons (pe_exc1 PySem.F.excBase_ValueError x_BadType g_BadType q_BadType rfl (pv 7)) (pa_cons (pe_exc1 PySem.F.excBase_ValueError x_BadUses g_BadUses q_BadUses rfl (pv 7)) (pa_cons (pe_exc1 PySem.F.excBase_ValueError x_BadWord g_BadWord q_BadWord rfl (pv 7)) (pa_cons (pe_exc1 PySem.F.excBase_ValueError x_BadWorld g_BadWorld q_BadWorld rfl (pv 7)) (pa_cons (pe_mkV Mv_Bent hr (by omega) (pa_cons (pv 8) pa_nil)) pa_nil)))))))))
        (pss_cons (ps_set (i := 3) nd rfl (Or.inl rfl) (pe_op uAdd (pv 3) (pe_lstN (pa_cons (pe_mkV Mv_Lacking hr (by omega) (pa_cons (pv 8) pa_nil)) (pa_cons (pe_mkV Mv_NameTwice hr (by omega) (pa_cons (pv 8) pa_nil)) (pa_cons (pe_exc1 PySem.F.excBase_ValueError x_NotEnded g_NotEnded q_NotEnded rfl (pv 7)) (pa_cons (pe_exc1 PySem.F.excBase_ValueError x_NotShown g_NotShown q_NotShown rfl (pv 7)) (pa_cons (pe_mkV Mv_NotTaken hr (by omega) (pa_cons (pv 8) pa_nil)) (pa_cons (pe_exc1 PySem.F.excBase_ValueError x_NothingDone g_NothingDone q_NothingDone rfl (pv 7)) pa_nil)))))))))
        (pss_cons (ps_set (i := 3) nd rfl (Or.inl rfl) (pe_op uAdd (pv 3) (pe_lstN (pa_cons (pe_exc1 PySem.F.excBase_ValueError x_NothingUndone g_NothingUndone q_NothingUndone rfl (pv 7)) (pa_cons (pe_mkV Mv_OtherCode hr (by omega) (pa_cons (pv 8) pa_nil)) (pa_cons (pe_mkV Mv_Refused hr (by omega) (pa_cons (pv 8) (pa_cons (pv 9) pa_nil))) (pa_cons (pe_mkV Mv_Ring hr (by omega) (pa_cons (pv 8) pa_nil)) (pa_cons (pe_exc1 PySem.F.excBase_ValueError x_Sealed g_Sealed q_Sealed rfl (pv 7)) (pa_cons (pe_mkV Mv_TooMany hr (by omega) (pa_cons (pv 8) pa_nil)) pa_nil)))))))))
        (pss_cons (ps_set (i := 3) nd rfl (Or.inl rfl) (pe_op uAdd (pv 3) (pe_lstN (pa_cons (pe_mkV Mv_TooSmall hr (by omega) (pa_cons (pv 8) pa_nil)) (pa_cons (pe_mkV Mv_Unlike hr (by omega) (pa_cons (pv 8) pa_nil)) (pa_cons (pe_mkV Mv_Untyped hr (by omega) (pa_cons (pv 8) pa_nil)) (pa_cons (pe_exc1 PySem.F.excBase_ValueError x_Used g_Used q_Used rfl (pv 7)) pa_nil)))))))
        (pss_cons (ps_for PassesOwn.never rfl (pi_enum (by rfl) n_enumerate (pa_cons (pv 3) pa_nil)) (pg_tup rfl (pgs_cons (pg_name (i := 10) nd rfl (Or.inr rfl)) (pgs_cons (pg_name (i := 11) nd rfl (Or.inl rfl)) pgs_nil)))
          (pss_cons (ps_if (pt_cmpR (uNe hr.units) (pe_df D_law_k00_flags hr (by omega) (pa_cons (pv 11) pa_nil)) (pe_lc (own := [("place", 12)]) (g := gName 12) rfl nd (pi_range1 rfl n_range (pa_cons (pe_callB uLen (by rfl) n_len (by decide +kernel) (pa_cons (pv 3) pa_nil)) pa_nil)) (blkOk_by (own := [("place", 12)]) (N := ["script", "state", "turn", "made", "base", "told", "both", "text", "number", "other", "at", "error", "place"]) (sc := defScope s_law) (by decide +kernel)) (fun _ _ _ _ _ => (pg_name (i := 12) nd rfl (Or.inl rfl))) (fun _ _ _ _ _ => pts_nil) (fun _ _ _ _ _ => (pe_cmpR (uEqK (K := K) rfl hr.units) (pv 12) (pv 10) (nomark _)))) (nomark _))
            (pss_one (ps_ret pe_bl))
            pss_nil)
          (pss_one (ps_if (pt_w (PW.pt (pw_or (pt_not (pt_val (pe_callB call_isV (by rfl) n_isinstance (by decide +kernel) (pa_cons (pv 11) (pa_cons (pe_glob (v := .ref _) rfl g_TongueError rfl) pa_nil))))) (pw_or1 (pt_not (pt_val (pe_callB call_isV (by rfl) n_isinstance (by decide +kernel) (pa_cons (pv 11) (pa_cons (pe_bltn (v := .ty "ValueError") rfl n_ValueError Boot.«ValueError» rfl) pa_nil)))))))))
            (pss_one (ps_ret pe_bl))
            pss_nil))))
        (pss_cons (ps_set (i := 4) nd rfl (Or.inl rfl) (pe_exc1 PySem.F.excBase_ValueError x_TongueError g_TongueError q_TongueError rfl (pv 7)))
        (pss_cons (ps_if (pt_w (PW.pt (pw_or (pt_cmpR uIn pe_bl (pe_df D_law_k00_flags hr (by omega) (pa_cons (pv 4) pa_nil)) (by rfl)) (pw_or (pt_not (pt_val (pe_callB call_isV (by rfl) n_isinstance (by decide +kernel) (pa_cons (pv 4) (pa_cons (pe_bltn (v := .ty "ValueError") rfl n_ValueError Boot.«ValueError» rfl) pa_nil))))) (pw_or1 (pt_val (pe_callB call_isV (by rfl) n_isinstance (by decide +kernel) (pa_cons (pe_veV n_ValueError (pv 7)) (pa_cons (pe_glob (v := .ref _) rfl g_TongueError rfl) pa_nil)))))))))
          (pss_one (ps_ret pe_bl))
          pss_nil)
        (pss_cons (ps_set (i := 5) nd rfl (Or.inl rfl) (pe_lstN (pa_cons (pe_exF (pe_mkV Mv_BadLines hr (by omega) (pa_cons (pv 8) pa_nil))) (pa_cons (pe_exF (pe_mkK Mk_BadLines hr (by omega) (pk_cons (pv 8) pk_nil))) (pa_cons (pe_exF (pe_mkV Mv_BadText hr (by omega) (pa_cons (pv 8) pa_nil))) (pa_cons (pe_exF (pe_mkK Mk_BadText hr (by omega) (pk_cons (pv 8) pk_nil))) (pa_cons (pe_exF (pe_mkV Mv_BadTexts hr (by omega) (pa_cons (pv 8) pa_nil))) (pa_cons (pe_exF (pe_mkK Mk_BadTexts hr (by omega) (pk_cons (pv 8) pk_nil))) pa_nil))))))))
        (pss_cons (ps_set (i := 5) nd rfl (Or.inl rfl) (pe_op uAdd (pv 5) (pe_lstN (pa_cons (pe_exF (pe_mkV Mv_Bent hr (by omega) (pa_cons (pv 8) pa_nil))) (pa_cons (pe_exF (pe_mkK Mk_Bent hr (by omega) (pk_cons (pv 8) pk_nil))) (pa_cons (pe_exF (pe_mkV Mv_Lacking hr (by omega) (pa_cons (pv 8) pa_nil))) (pa_cons (pe_exF (pe_mkK Mk_Lacking hr (by omega) (pk_cons (pv 8) pk_nil))) (pa_cons (pe_exF (pe_mkV Mv_NameTwice hr (by omega) (pa_cons (pv 8) pa_nil))) (pa_cons (pe_exF (pe_mkK Mk_NameTwice hr (by omega) (pk_cons (pv 8) pk_nil))) pa_nil)))))))))
        (pss_cons (ps_set (i := 5) nd rfl (Or.inl rfl) (pe_op uAdd (pv 5) (pe_lstN (pa_cons (pe_exF (pe_mkV Mv_NotTaken hr (by omega) (pa_cons (pv 8) pa_nil))) (pa_cons (pe_exF (pe_mkK Mk_NotTaken hr (by omega) (pk_cons (pv 8) pk_nil))) (pa_cons (pe_exF (pe_mkV Mv_OtherCode hr (by omega) (pa_cons (pv 8) pa_nil))) (pa_cons (pe_exF (pe_mkK Mk_OtherCode hr (by omega) (pk_cons (pv 8) pk_nil))) (pa_cons (pe_exF (pe_mkV Mv_Ring hr (by omega) (pa_cons (pv 8) pa_nil))) (pa_cons (pe_exF (pe_mkK Mk_Ring hr (by omega) (pk_cons (pv 8) pk_nil))) pa_nil)))))))))
        (pss_cons (ps_set (i := 5) nd rfl (Or.inl rfl) (pe_op uAdd (pv 5) (pe_lstN (pa_cons (pe_exF (pe_mkV Mv_TooMany hr (by omega) (pa_cons (pv 8) pa_nil))) (pa_cons (pe_exF (pe_mkK Mk_TooMany hr (by omega) (pk_cons (pv 8) pk_nil))) (pa_cons (pe_exF (pe_mkV Mv_TooSmall hr (by omega) (pa_cons (pv 8) pa_nil))) (pa_cons (pe_exF (pe_mkK Mk_TooSmall hr (by omega) (pk_cons (pv 8) pk_nil))) (pa_cons (pe_exF (pe_mkV Mv_Unlike hr (by omega) (pa_cons (pv 8) pa_nil))) (pa_cons (pe_exF (pe_mkK Mk_Unlike hr (by omega) (pk_cons (pv 8) pk_nil))) pa_nil)))))))))
        (pss_cons (ps_set (i := 5) nd rfl (Or.inl rfl) (pe_op uAdd (pv 5) (pe_lstN (pa_cons (pe_exF (pe_mkV Mv_Untyped hr (by omega) (pa_cons (pv 8) pa_nil))) (pa_cons (pe_exF (pe_mkK Mk_Untyped hr (by omega) (pk_cons (pv 8) pk_nil))) pa_nil)))))
        (pss_cons (ps_if (pt_cmpR (uNe hr.units) (pe_callB (uRepr hg hr.units) (by rfl) n_repr (by decide +kernel) (pa_cons (pv 5) pa_nil)) (pe_callB (uRepr hg hr.units) (by rfl) n_repr (by decide +kernel) (pa_cons (pe_op uMul (pe_lstN (pa_cons (pv 8) pa_nil)) pe_int) pa_nil)) (nomark _))
          (pss_one (ps_ret pe_bl))
          pss_nil)
        (pss_cons (ps_set (i := 6) nd rfl (Or.inl rfl) (pe_lstN (pa_cons (pe_mkV Mv_Refused hr (by omega) (pa_cons (pv 8) (pa_cons (pv 9) pa_nil))) (pa_cons (pe_mkK Mk_Refused hr (by omega) (pk_cons (pv 9) (pk_cons (pv 8) pk_nil))) pa_nil))))
        (pss_one (ps_if (pt_cmpR (uNe hr.units) (pe_callB (uRepr hg hr.units) (by rfl) n_repr (by decide +kernel) (pa_cons (pe_lc (own := [("error", 11)]) (g := gName 11) rfl nd (pi_seq (pv 6)) (blkOk_by (own := [("error", 11)]) (N := ["script", "state", "turn", "made", "base", "told", "both", "text", "number", "other", "at", "error", "place"]) (sc := defScope s_law) (by decide +kernel)) (fun _ _ _ _ _ => (pg_name (i := 11) nd rfl (Or.inl rfl))) (fun _ _ _ _ _ => pts_nil) (fun _ _ _ _ _ => (pe_tupN (pa_cons (pe_exFK (K := K) rfl (pv 11)) (pa_cons (pe_exFK (K := K) rfl (pv 11)) pa_nil))))) pa_nil)) (pe_callB (uRepr hg hr.units) (by rfl) n_repr (by decide +kernel) (pa_cons (pe_op uMul (pe_lstN (pa_cons (pe_tupN (pa_cons (pv 8) (pa_cons (pv 9) pa_nil))) pa_nil)) pe_int) pa_nil)) (nomark _))
          (pss_one (ps_ret pe_bl))
          pss_nil))))))))))))))))))))))
      (pss_one (ps_ret pe_bl)))), ?_⟩
    refine ⟨_, rfl, a, ns, rfl, hS, by omega, fun d g c H1 e1 nd' ng nc dg S0 => ?_⟩
    have hmin : ∀ n : Nat, n ≤ 63 → 0 ≤ (1 + (if (3 : Int) < (n : Int) then (3 : Int) else (n : Int))) ∧ (1 + (if (3 : Int) < (n : Int) then (3 : Int) else (n : Int))) ≤ 4 := fun n h => by split <;> omega
    obtain ⟨m0, m1⟩ := hmin ns.length hl
    refine ⟨_, rfl, _, ns.length, rfl, .inl ⟨_, e1.seq hS, by rw [List.length_map]⟩, _, _, rfl, add_i ⟨_, rfl, by omega, by omega, for_range (fun i σ H2 => Fr0k a d σ ∧ Stt H2 d g c (3 * i)) ⟨⟨_, _, _, _, _, _, _, _, _, _, _, rfl⟩, S0⟩ ?_ ?_⟩⟩
    · rintro i σ H2 hi ⟨⟨v2, v3, v4, v5, v6, v7, v8, v9, v10, v11, v12, rfl⟩, S⟩
      have hT : 3 * i ≤ 12 := by
        have : i < 4 := by omega
        omega
      rw [show 3 * (i + 1) = 3 * i + 3 by omega]
      generalize 3 * i = T at *
      have hT2 : topT = 1099511627776 := rfl
      refine ⟨_, rfl, lst_new (by show 3 ≤ 1000; decide) fun lp nlp => ?_⟩
      have S2 := S.new (o := .lst ([Str.ofString "", "a", "no term"].map V.str)) nlp
      obtain ⟨kg, hg0⟩ := S.g
      refine ⟨d, g, c, T, lp, [Str.ofString "", "a", "no term"].map V.str, rfl, S2, upd_same, (ne_of_none hg0 nlp).symm, by decide, by decide, by omega, fun ix x H3 hx C3 S3 => ?_⟩
      obtain ⟨tx, _, rfl⟩ := pick_str hx
      refine ⟨_, rfl, d, g, c, T + 1, 100, rfl, S3, by omega, by decide, by decide, fun nu H4 C4 S4 nu0 nu1 => ?_⟩
      refine ⟨_, rfl, d, g, c, T + 1 + 1, 100, rfl, S4, by omega, by decide, by decide, fun ot H5 C5 S5 ot0 ot1 => ?_⟩
      refine ⟨_, _, _, rfl, ?_⟩
      replace S5 : Stt H5 d g c (T + 3) := S5
      generalize H5 = B at S5 ⊢
      have U0 : Same B B := Same.refl _
      refine ⟨_, rfl, fun a1 na1 => ?_⟩
      have s1 : Same B (upd B a1 (ExO (.ref C_Astray) a1)) := same_new na1
      have e1 : ExAt K (upd B a1 (ExO (.ref C_Astray) a1)) a1 (.ref C_Astray) := .bare k_Astray upd_same
      generalize upd B a1 (ExO (.ref C_Astray) a1) = G1 at s1 e1 ⊢
      clear na1
      have U1 := U0.trans s1
      have E1 : ErL K G1 [.ref a1] [C_Astray] := ⟨⟨a1, rfl, e1⟩, True.intro⟩
      refine ⟨_, rfl, fun a2 na2 => ?_⟩
      have s2 : Same G1 (upd G1 a2 (ExO (.ref C_BadBlock) a2)) := same_new na2
      have e2 : ExAt K (upd G1 a2 (ExO (.ref C_BadBlock) a2)) a2 (.ref C_BadBlock) := .bare k_BadBlock upd_same
      generalize upd G1 a2 (ExO (.ref C_BadBlock) a2) = G2 at s2 e2 ⊢
      clear na2
      have U2 := U1.trans s2
      have E2 := E1.snoc s2 e2
      refine ⟨_, rfl, fun a3 na3 => ?_⟩
      have s3 : Same G2 (upd G2 a3 (ExO (.ref C_BadBook) a3)) := same_new na3
      have e3 : ExAt K (upd G2 a3 (ExO (.ref C_BadBook) a3)) a3 (.ref C_BadBook) := .bare k_BadBook upd_same
      generalize upd G2 a3 (ExO (.ref C_BadBook) a3) = G3 at s3 e3 ⊢
      clear na3
      have U3 := U2.trans s3
      have E3 := E2.snoc s3 e3
      refine ⟨_, rfl, fun a4 na4 => ?_⟩
      have s4 : Same G3 (upd G3 a4 (ExO (.ref C_BadContext) a4)) := same_new na4
      have e4 : ExAt K (upd G3 a4 (ExO (.ref C_BadContext) a4)) a4 (.ref C_BadContext) := .bare k_BadContext upd_same
      generalize upd G3 a4 (ExO (.ref C_BadContext) a4) = G4 at s4 e4 ⊢
      clear na4
      have U4 := U3.trans s4
      have E4 := E3.snoc s4 e4
      refine ⟨_, rfl, fun a5 na5 => ?_⟩
      have s5 : Same G4 (upd G4 a5 (ExO (.ref C_BadDeclaration) a5)) := same_new na5
      have e5 : ExAt K (upd G4 a5 (ExO (.ref C_BadDeclaration) a5)) a5 (.ref C_BadDeclaration) := .bare k_BadDeclaration upd_same
      generalize upd G4 a5 (ExO (.ref C_BadDeclaration) a5) = G5 at s5 e5 ⊢
      clear na5
      have U5 := U4.trans s5
      have E5 := E4.snoc s5 e5
      refine ⟨_, rfl, fun a6 na6 => ?_⟩
      have s6 : Same G5 (upd G5 a6 (ExO (.ref C_BadDeed) a6)) := same_new na6
      have e6 : ExAt K (upd G5 a6 (ExO (.ref C_BadDeed) a6)) a6 (.ref C_BadDeed) := .bare k_BadDeed upd_same
      generalize upd G5 a6 (ExO (.ref C_BadDeed) a6) = G6 at s6 e6 ⊢
      clear na6
      have U6 := U5.trans s6
      have E6 := E5.snoc s6 e6
      refine lst_newS (by show 6 ≤ 1000; decide) fun p0 B0 t0 hp0 => ?_
      replace U6 := U6.trans t0
      obtain ⟨X0, hp0, F0⟩ : ∃ X, B0 p0 = some (.lst X) ∧ ErL K B0 X [C_Astray, C_BadBlock, C_BadBook, C_BadContext, C_BadDeclaration, C_BadDeed] := ⟨_, hp0, ErL.same t0 E6⟩
      clear e1 E1  e2 E2  e3 E3  e4 E4  e5 E5  e6 E6 
      refine ⟨_, rfl, _, rfl, fun a7 na7 => ?_⟩
      have s7 : Same B0 (upd B0 a7 (ExO (.ref C_BadErased) a7)) := same_new na7
      have e7 : ExAt K (upd B0 a7 (ExO (.ref C_BadErased) a7)) a7 (.ref C_BadErased) := .bare k_BadErased upd_same
      generalize upd B0 a7 (ExO (.ref C_BadErased) a7) = G7 at s7 e7 ⊢
      clear na7
      have U7 := U6.trans s7
      have E7 : ErL K G7 [.ref a7] [C_BadErased] := ⟨⟨a7, rfl, e7⟩, True.intro⟩
      have hq7 := s7 _ _ hp0
      have W7 := ErL.same s7 F0
      refine ⟨_, rfl, fun a8 na8 => ?_⟩
      have s8 : Same G7 (upd G7 a8 (ExO (.ref C_BadImage) a8)) := same_new na8
      have e8 : ExAt K (upd G7 a8 (ExO (.ref C_BadImage) a8)) a8 (.ref C_BadImage) := .bare k_BadImage upd_same
      generalize upd G7 a8 (ExO (.ref C_BadImage) a8) = G8 at s8 e8 ⊢
      clear na8
      have U8 := U7.trans s8
      have E8 := E7.snoc s8 e8
      have hq8 := s8 _ _ hq7
      have W8 := ErL.same s8 W7
      refine ⟨_, rfl, by show 1 ≤ 1000; decide, fun a9 na9 => ⟨a9, [_], rfl, rfl, upd_same, fun d9 G9 nd9 ne9 ea9 ed9 st9 => ⟨rfl, ?_⟩⟩⟩
      have s9 : Same G8 G9 := fun b o e => st9 b o (ne_of_none e na9) (by rw [upd_ne (ne_of_none e na9)]; exact e)
      have e9 : ExAt K G9 a9 (.ref C_BadLines) := .dict k_BadLines ea9 ed9
      clear st9 ea9 ed9 nd9 ne9 na9
      have U9 := U8.trans s9
      have E9 := E8.snoc s9 e9
      have hq9 := s9 _ _ hq8
      have W9 := ErL.same s9 W8
      refine ⟨_, rfl, fun a10 na10 => ?_⟩
      have s10 : Same G9 (upd G9 a10 (ExO (.ref C_BadMaker) a10)) := same_new na10
      have e10 : ExAt K (upd G9 a10 (ExO (.ref C_BadMaker) a10)) a10 (.ref C_BadMaker) := .bare k_BadMaker upd_same
      generalize upd G9 a10 (ExO (.ref C_BadMaker) a10) = G10 at s10 e10 ⊢
      clear na10
      have U10 := U9.trans s10
      have E10 := E9.snoc s10 e10
      have hq10 := s10 _ _ hq9
      have W10 := ErL.same s10 W9
      refine ⟨_, rfl, fun a11 na11 => ?_⟩
      have s11 : Same G10 (upd G10 a11 (ExO (.ref C_BadModule) a11)) := same_new na11
      have e11 : ExAt K (upd G10 a11 (ExO (.ref C_BadModule) a11)) a11 (.ref C_BadModule) := .bare k_BadModule upd_same
      generalize upd G10 a11 (ExO (.ref C_BadModule) a11) = G11 at s11 e11 ⊢
      clear na11
      have U11 := U10.trans s11
      have E11 := E10.snoc s11 e11
      have hq11 := s11 _ _ hq10
      have W11 := ErL.same s11 W10
      refine ⟨_, rfl, fun a12 na12 => ?_⟩
      have s12 : Same G11 (upd G11 a12 (ExO (.ref C_BadMoments) a12)) := same_new na12
      have e12 : ExAt K (upd G11 a12 (ExO (.ref C_BadMoments) a12)) a12 (.ref C_BadMoments) := .bare k_BadMoments upd_same
      generalize upd G11 a12 (ExO (.ref C_BadMoments) a12) = G12 at s12 e12 ⊢
      clear na12
      have U12 := U11.trans s12
      have E12 := E11.snoc s12 e12
      have hq12 := s12 _ _ hq11
      have W12 := ErL.same s12 W11
      refine lst_newS (by show 6 ≤ 1000; decide) fun r1 R1 t1 hr1 => ?_
      have l1 : X0.length = 6 := W12.length
      refine add_lS (t1 _ _ hq12) hr1 rfl (by rw [l1]; show 6 + 6 ≤ 1000; decide) fun p1 B1 w1 hp1 => ?_
      replace U12 := (U12.trans t1).trans w1
      obtain ⟨X1, hp1, F1⟩ : ∃ X, B1 p1 = some (.lst X) ∧ ErL K B1 X ([C_Astray, C_BadBlock, C_BadBook, C_BadContext, C_BadDeclaration, C_BadDeed] ++ [C_BadErased, C_BadImage, C_BadLines, C_BadMaker, C_BadModule, C_BadMoments]) := ⟨_, hp1, ErL.append (ErL.same (t1.trans w1) W12) (ErL.same (t1.trans w1) E12)⟩
      clear e7 E7  e8 E8  e9 E9  e10 E10  e11 E11  e12 E12 
      refine ⟨_, rfl, _, rfl, fun a13 na13 => ?_⟩
      have s13 : Same B1 (upd B1 a13 (ExO (.ref C_BadName) a13)) := same_new na13
      have e13 : ExAt K (upd B1 a13 (ExO (.ref C_BadName) a13)) a13 (.ref C_BadName) := .bare k_BadName upd_same
      generalize upd B1 a13 (ExO (.ref C_BadName) a13) = G13 at s13 e13 ⊢
      clear na13
      have U13 := U12.trans s13
      have E13 : ErL K G13 [.ref a13] [C_BadName] := ⟨⟨a13, rfl, e13⟩, True.intro⟩
      have hq13 := s13 _ _ hp1
      have W13 := ErL.same s13 F1
      refine ⟨_, rfl, fun a14 na14 => ?_⟩
      have s14 : Same G13 (upd G13 a14 (ExO (.ref C_BadNumber) a14)) := same_new na14
      have e14 : ExAt K (upd G13 a14 (ExO (.ref C_BadNumber) a14)) a14 (.ref C_BadNumber) := .bare k_BadNumber upd_same
      generalize upd G13 a14 (ExO (.ref C_BadNumber) a14) = G14 at s14 e14 ⊢
      clear na14
      have U14 := U13.trans s14
      have E14 := E13.snoc s14 e14
      have hq14 := s14 _ _ hq13
      have W14 := ErL.same s14 W13
      refine ⟨_, rfl, fun a15 na15 => ?_⟩
      have s15 : Same G14 (upd G14 a15 (ExO (.ref C_BadObject) a15)) := same_new na15
      have e15 : ExAt K (upd G14 a15 (ExO (.ref C_BadObject) a15)) a15 (.ref C_BadObject) := .bare k_BadObject upd_same
      generalize upd G14 a15 (ExO (.ref C_BadObject) a15) = G15 at s15 e15 ⊢
      clear na15
      have U15 := U14.trans s15
      have E15 := E14.snoc s15 e15
      have hq15 := s15 _ _ hq14
      have W15 := ErL.same s15 W14
      refine ⟨_, rfl, fun a16 na16 => ?_⟩
      have s16 : Same G15 (upd G15 a16 (ExO (.ref C_BadPlace) a16)) := same_new na16
      have e16 : ExAt K (upd G15 a16 (ExO (.ref C_BadPlace) a16)) a16 (.ref C_BadPlace) := .bare k_BadPlace upd_same
      generalize upd G15 a16 (ExO (.ref C_BadPlace) a16) = G16 at s16 e16 ⊢
      clear na16
      have U16 := U15.trans s16
      have E16 := E15.snoc s16 e16
      have hq16 := s16 _ _ hq15
      have W16 := ErL.same s16 W15
      refine ⟨_, rfl, fun a17 na17 => ?_⟩
      have s17 : Same G16 (upd G16 a17 (ExO (.ref C_BadRule) a17)) := same_new na17
      have e17 : ExAt K (upd G16 a17 (ExO (.ref C_BadRule) a17)) a17 (.ref C_BadRule) := .bare k_BadRule upd_same
      generalize upd G16 a17 (ExO (.ref C_BadRule) a17) = G17 at s17 e17 ⊢
      clear na17
      have U17 := U16.trans s17
      have E17 := E16.snoc s17 e17
      have hq17 := s17 _ _ hq16
      have W17 := ErL.same s17 W16
      refine ⟨_, rfl, fun a18 na18 => ?_⟩
      have s18 : Same G17 (upd G17 a18 (ExO (.ref C_BadSeal) a18)) := same_new na18
      have e18 : ExAt K (upd G17 a18 (ExO (.ref C_BadSeal) a18)) a18 (.ref C_BadSeal) := .bare k_BadSeal upd_same
      generalize upd G17 a18 (ExO (.ref C_BadSeal) a18) = G18 at s18 e18 ⊢
      clear na18
      have U18 := U17.trans s18
      have E18 := E17.snoc s18 e18
      have hq18 := s18 _ _ hq17
      have W18 := ErL.same s18 W17
      refine lst_newS (by show 6 ≤ 1000; decide) fun r2 R2 t2 hr2 => ?_
      have l2 : X1.length = 12 := W18.length
      refine add_lS (t2 _ _ hq18) hr2 rfl (by rw [l2]; show 12 + 6 ≤ 1000; decide) fun p2 B2 w2 hp2 => ?_
      replace U18 := (U18.trans t2).trans w2
      obtain ⟨X2, hp2, F2⟩ : ∃ X, B2 p2 = some (.lst X) ∧ ErL K B2 X (([C_Astray, C_BadBlock, C_BadBook, C_BadContext, C_BadDeclaration, C_BadDeed] ++ [C_BadErased, C_BadImage, C_BadLines, C_BadMaker, C_BadModule, C_BadMoments]) ++ [C_BadName, C_BadNumber, C_BadObject, C_BadPlace, C_BadRule, C_BadSeal]) := ⟨_, hp2, ErL.append (ErL.same (t2.trans w2) W18) (ErL.same (t2.trans w2) E18)⟩
      clear e13 E13  e14 E14  e15 E15  e16 E16  e17 E17  e18 E18 
      refine ⟨_, rfl, _, rfl, fun a19 na19 => ?_⟩
      have s19 : Same B2 (upd B2 a19 (ExO (.ref C_BadSize) a19)) := same_new na19
      have e19 : ExAt K (upd B2 a19 (ExO (.ref C_BadSize) a19)) a19 (.ref C_BadSize) := .bare k_BadSize upd_same
      generalize upd B2 a19 (ExO (.ref C_BadSize) a19) = G19 at s19 e19 ⊢
      clear na19
      have U19 := U18.trans s19
      have E19 : ErL K G19 [.ref a19] [C_BadSize] := ⟨⟨a19, rfl, e19⟩, True.intro⟩
      have hq19 := s19 _ _ hp2
      have W19 := ErL.same s19 F2
      refine ⟨_, rfl, fun a20 na20 => ?_⟩
      have s20 : Same G19 (upd G19 a20 (ExO (.ref C_BadState) a20)) := same_new na20
      have e20 : ExAt K (upd G19 a20 (ExO (.ref C_BadState) a20)) a20 (.ref C_BadState) := .bare k_BadState upd_same
      generalize upd G19 a20 (ExO (.ref C_BadState) a20) = G20 at s20 e20 ⊢
      clear na20
      have U20 := U19.trans s20
      have E20 := E19.snoc s20 e20
      have hq20 := s20 _ _ hq19
      have W20 := ErL.same s20 W19
      refine ⟨_, rfl, fun a21 na21 => ?_⟩
      have s21 : Same G20 (upd G20 a21 (ExO (.ref C_BadSurface) a21)) := same_new na21
      have e21 : ExAt K (upd G20 a21 (ExO (.ref C_BadSurface) a21)) a21 (.ref C_BadSurface) := .bare k_BadSurface upd_same
      generalize upd G20 a21 (ExO (.ref C_BadSurface) a21) = G21 at s21 e21 ⊢
      clear na21
      have U21 := U20.trans s21
      have E21 := E20.snoc s21 e21
      have hq21 := s21 _ _ hq20
      have W21 := ErL.same s21 W20
      refine ⟨_, rfl, fun a22 na22 => ?_⟩
      have s22 : Same G21 (upd G21 a22 (ExO (.ref C_BadTerm) a22)) := same_new na22
      have e22 : ExAt K (upd G21 a22 (ExO (.ref C_BadTerm) a22)) a22 (.ref C_BadTerm) := .bare k_BadTerm upd_same
      generalize upd G21 a22 (ExO (.ref C_BadTerm) a22) = G22 at s22 e22 ⊢
      clear na22
      have U22 := U21.trans s22
      have E22 := E21.snoc s22 e22
      have hq22 := s22 _ _ hq21
      have W22 := ErL.same s22 W21
      refine ⟨_, rfl, by show 1 ≤ 1000; decide, fun a23 na23 => ⟨a23, [_], rfl, rfl, upd_same, fun d23 G23 nd23 ne23 ea23 ed23 st23 => ⟨rfl, ?_⟩⟩⟩
      have s23 : Same G22 G23 := fun b o e => st23 b o (ne_of_none e na23) (by rw [upd_ne (ne_of_none e na23)]; exact e)
      have e23 : ExAt K G23 a23 (.ref C_BadText) := .dict k_BadText ea23 ed23
      clear st23 ea23 ed23 nd23 ne23 na23
      have U23 := U22.trans s23
      have E23 := E22.snoc s23 e23
      have hq23 := s23 _ _ hq22
      have W23 := ErL.same s23 W22
      refine ⟨_, rfl, by show 1 ≤ 1000; decide, fun a24 na24 => ⟨a24, [_], rfl, rfl, upd_same, fun d24 G24 nd24 ne24 ea24 ed24 st24 => ⟨rfl, ?_⟩⟩⟩
      have s24 : Same G23 G24 := fun b o e => st24 b o (ne_of_none e na24) (by rw [upd_ne (ne_of_none e na24)]; exact e)
      have e24 : ExAt K G24 a24 (.ref C_BadTexts) := .dict k_BadTexts ea24 ed24
      clear st24 ea24 ed24 nd24 ne24 na24
      have U24 := U23.trans s24
      have E24 := E23.snoc s24 e24
      have hq24 := s24 _ _ hq23
      have W24 := ErL.same s24 W23
      refine lst_newS (by show 6 ≤ 1000; decide) fun r3 R3 t3 hr3 => ?_
      have l3 : X2.length = 18 := W24.length
      refine add_lS (t3 _ _ hq24) hr3 rfl (by rw [l3]; show 18 + 6 ≤ 1000; decide) fun p3 B3 w3 hp3 => ?_
      replace U24 := (U24.trans t3).trans w3
      obtain ⟨X3, hp3, F3⟩ : ∃ X, B3 p3 = some (.lst X) ∧ ErL K B3 X ((([C_Astray, C_BadBlock, C_BadBook, C_BadContext, C_BadDeclaration, C_BadDeed] ++ [C_BadErased, C_BadImage, C_BadLines, C_BadMaker, C_BadModule, C_BadMoments]) ++ [C_BadName, C_BadNumber, C_BadObject, C_BadPlace, C_BadRule, C_BadSeal]) ++ [C_BadSize, C_BadState, C_BadSurface, C_BadTerm, C_BadText, C_BadTexts]) := ⟨_, hp3, ErL.append (ErL.same (t3.trans w3) W24) (ErL.same (t3.trans w3) E24)⟩
      clear e19 E19  e20 E20  e21 E21  e22 E22  e23 E23  e24 E24 
      refine ⟨_, rfl, _, rfl, fun a25 na25 => ?_⟩
      have s25 : Same B3 (upd B3 a25 (ExO (.ref C_BadTree) a25)) := same_new na25
      have e25 : ExAt K (upd B3 a25 (ExO (.ref C_BadTree) a25)) a25 (.ref C_BadTree) := .bare k_BadTree upd_same
      generalize upd B3 a25 (ExO (.ref C_BadTree) a25) = G25 at s25 e25 ⊢
      clear na25
      have U25 := U24.trans s25
      have E25 : ErL K G25 [.ref a25] [C_BadTree] := ⟨⟨a25, rfl, e25⟩, True.intro⟩
      have hq25 := s25 _ _ hp3
      have W25 := ErL.same s25 F3
      refine ⟨_, rfl, fun a26 na26 => ?_⟩
      have s26 : Same G25 (upd G25 a26 (ExO (.ref C_BadType) a26)) := same_new na26
      have e26 : ExAt K (upd G25 a26 (ExO (.ref C_BadType) a26)) a26 (.ref C_BadType) := .bare k_BadType upd_same
      generalize upd G25 a26 (ExO (.ref C_BadType) a26) = G26 at s26 e26 ⊢
      clear na26
      have U26 := U25.trans s26
      have E26 := E25.snoc s26 e26
      have hq26 := s26 _ _ hq25
      have W26 := ErL.same s26 W25
      refine ⟨_, rfl, fun a27 na27 => ?_⟩
      have s27 : Same G26 (upd G26 a27 (ExO (.ref C_BadUses) a27)) := same_new na27
      have e27 : ExAt K (upd G26 a27 (ExO (.ref C_BadUses) a27)) a27 (.ref C_BadUses) := .bare k_BadUses upd_same
      generalize upd G26 a27 (ExO (.ref C_BadUses) a27) = G27 at s27 e27 ⊢
      clear na27
      have U27 := U26.trans s27
      have E27 := E26.snoc s27 e27
      have hq27 := s27 _ _ hq26
      have W27 := ErL.same s27 W26
      refine ⟨_, rfl, fun a28 na28 => ?_⟩
      have s28 : Same G27 (upd G27 a28 (ExO (.ref C_BadWord) a28)) := same_new na28
      have e28 : ExAt K (upd G27 a28 (ExO (.ref C_BadWord) a28)) a28 (.ref C_BadWord) := .bare k_BadWord upd_same
      generalize upd G27 a28 (ExO (.ref C_BadWord) a28) = G28 at s28 e28 ⊢
      clear na28
      have U28 := U27.trans s28
      have E28 := E27.snoc s28 e28
      have hq28 := s28 _ _ hq27
      have W28 := ErL.same s28 W27
      refine ⟨_, rfl, fun a29 na29 => ?_⟩
      have s29 : Same G28 (upd G28 a29 (ExO (.ref C_BadWorld) a29)) := same_new na29
      have e29 : ExAt K (upd G28 a29 (ExO (.ref C_BadWorld) a29)) a29 (.ref C_BadWorld) := .bare k_BadWorld upd_same
      generalize upd G28 a29 (ExO (.ref C_BadWorld) a29) = G29 at s29 e29 ⊢
      clear na29
      have U29 := U28.trans s29
      have E29 := E28.snoc s29 e29
      have hq29 := s29 _ _ hq28
      have W29 := ErL.same s29 W28
      refine ⟨_, rfl, by show 1 ≤ 1000; decide, fun a30 na30 => ⟨a30, [_], rfl, rfl, upd_same, fun d30 G30 nd30 ne30 ea30 ed30 st30 => ⟨rfl, ?_⟩⟩⟩
      have s30 : Same G29 G30 := fun b o e => st30 b o (ne_of_none e na30) (by rw [upd_ne (ne_of_none e na30)]; exact e)
      have e30 : ExAt K G30 a30 (.ref C_Bent) := .dict k_Bent ea30 ed30
      clear st30 ea30 ed30 nd30 ne30 na30
      have U30 := U29.trans s30
      have E30 := E29.snoc s30 e30
      have hq30 := s30 _ _ hq29
      have W30 := ErL.same s30 W29
      refine lst_newS (by show 6 ≤ 1000; decide) fun r4 R4 t4 hr4 => ?_
      have l4 : X3.length = 24 := W30.length
      refine add_lS (t4 _ _ hq30) hr4 rfl (by rw [l4]; show 24 + 6 ≤ 1000; decide) fun p4 B4 w4 hp4 => ?_
      replace U30 := (U30.trans t4).trans w4
      obtain ⟨X4, hp4, F4⟩ : ∃ X, B4 p4 = some (.lst X) ∧ ErL K B4 X (((([C_Astray, C_BadBlock, C_BadBook, C_BadContext, C_BadDeclaration, C_BadDeed] ++ [C_BadErased, C_BadImage, C_BadLines, C_BadMaker, C_BadModule, C_BadMoments]) ++ [C_BadName, C_BadNumber, C_BadObject, C_BadPlace, C_BadRule, C_BadSeal]) ++ [C_BadSize, C_BadState, C_BadSurface, C_BadTerm, C_BadText, C_BadTexts]) ++ [C_BadTree, C_BadType, C_BadUses, C_BadWord, C_BadWorld, C_Bent]) := ⟨_, hp4, ErL.append (ErL.same (t4.trans w4) W30) (ErL.same (t4.trans w4) E30)⟩
      clear e25 E25  e26 E26  e27 E27  e28 E28  e29 E29  e30 E30 
      refine ⟨_, rfl, _, rfl, by show 1 ≤ 1000; decide, fun a31 na31 => ⟨a31, [_], rfl, rfl, upd_same, fun d31 G31 nd31 ne31 ea31 ed31 st31 => ⟨rfl, ?_⟩⟩⟩
      have s31 : Same B4 G31 := fun b o e => st31 b o (ne_of_none e na31) (by rw [upd_ne (ne_of_none e na31)]; exact e)
      have e31 : ExAt K G31 a31 (.ref C_Lacking) := .dict k_Lacking ea31 ed31
      clear st31 ea31 ed31 nd31 ne31 na31
      have U31 := U30.trans s31
      have E31 : ErL K G31 [.ref a31] [C_Lacking] := ⟨⟨a31, rfl, e31⟩, True.intro⟩
      have hq31 := s31 _ _ hp4
      have W31 := ErL.same s31 F4
      refine ⟨_, rfl, by show 1 ≤ 1000; decide, fun a32 na32 => ⟨a32, [_], rfl, rfl, upd_same, fun d32 G32 nd32 ne32 ea32 ed32 st32 => ⟨rfl, ?_⟩⟩⟩
      have s32 : Same G31 G32 := fun b o e => st32 b o (ne_of_none e na32) (by rw [upd_ne (ne_of_none e na32)]; exact e)
      have e32 : ExAt K G32 a32 (.ref C_NameTwice) := .dict k_NameTwice ea32 ed32
      clear st32 ea32 ed32 nd32 ne32 na32
      have U32 := U31.trans s32
      have E32 := E31.snoc s32 e32
      have hq32 := s32 _ _ hq31
      have W32 := ErL.same s32 W31
      refine ⟨_, rfl, fun a33 na33 => ?_⟩
      have s33 : Same G32 (upd G32 a33 (ExO (.ref C_NotEnded) a33)) := same_new na33
      have e33 : ExAt K (upd G32 a33 (ExO (.ref C_NotEnded) a33)) a33 (.ref C_NotEnded) := .bare k_NotEnded upd_same
      generalize upd G32 a33 (ExO (.ref C_NotEnded) a33) = G33 at s33 e33 ⊢
      clear na33
      have U33 := U32.trans s33
      have E33 := E32.snoc s33 e33
      have hq33 := s33 _ _ hq32
      have W33 := ErL.same s33 W32
      refine ⟨_, rfl, fun a34 na34 => ?_⟩
      have s34 : Same G33 (upd G33 a34 (ExO (.ref C_NotShown) a34)) := same_new na34
      have e34 : ExAt K (upd G33 a34 (ExO (.ref C_NotShown) a34)) a34 (.ref C_NotShown) := .bare k_NotShown upd_same
      generalize upd G33 a34 (ExO (.ref C_NotShown) a34) = G34 at s34 e34 ⊢
      clear na34
      have U34 := U33.trans s34
      have E34 := E33.snoc s34 e34
      have hq34 := s34 _ _ hq33
      have W34 := ErL.same s34 W33
      refine ⟨_, rfl, by show 1 ≤ 1000; decide, fun a35 na35 => ⟨a35, [_], rfl, rfl, upd_same, fun d35 G35 nd35 ne35 ea35 ed35 st35 => ⟨rfl, ?_⟩⟩⟩
      have s35 : Same G34 G35 := fun b o e => st35 b o (ne_of_none e na35) (by rw [upd_ne (ne_of_none e na35)]; exact e)
      have e35 : ExAt K G35 a35 (.ref C_NotTaken) := .dict k_NotTaken ea35 ed35
      clear st35 ea35 ed35 nd35 ne35 na35
      have U35 := U34.trans s35
      have E35 := E34.snoc s35 e35
      have hq35 := s35 _ _ hq34
      have W35 := ErL.same s35 W34
      refine ⟨_, rfl, fun a36 na36 => ?_⟩
      have s36 : Same G35 (upd G35 a36 (ExO (.ref C_NothingDone) a36)) := same_new na36
      have e36 : ExAt K (upd G35 a36 (ExO (.ref C_NothingDone) a36)) a36 (.ref C_NothingDone) := .bare k_NothingDone upd_same
      generalize upd G35 a36 (ExO (.ref C_NothingDone) a36) = G36 at s36 e36 ⊢
      clear na36
      have U36 := U35.trans s36
      have E36 := E35.snoc s36 e36
      have hq36 := s36 _ _ hq35
      have W36 := ErL.same s36 W35
      refine lst_newS (by show 6 ≤ 1000; decide) fun r5 R5 t5 hr5 => ?_
      have l5 : X4.length = 30 := W36.length
      refine add_lS (t5 _ _ hq36) hr5 rfl (by rw [l5]; show 30 + 6 ≤ 1000; decide) fun p5 B5 w5 hp5 => ?_
      replace U36 := (U36.trans t5).trans w5
      obtain ⟨X5, hp5, F5⟩ : ∃ X, B5 p5 = some (.lst X) ∧ ErL K B5 X ((((([C_Astray, C_BadBlock, C_BadBook, C_BadContext, C_BadDeclaration, C_BadDeed] ++ [C_BadErased, C_BadImage, C_BadLines, C_BadMaker, C_BadModule, C_BadMoments]) ++ [C_BadName, C_BadNumber, C_BadObject, C_BadPlace, C_BadRule, C_BadSeal]) ++ [C_BadSize, C_BadState, C_BadSurface, C_BadTerm, C_BadText, C_BadTexts]) ++ [C_BadTree, C_BadType, C_BadUses, C_BadWord, C_BadWorld, C_Bent]) ++ [C_Lacking, C_NameTwice, C_NotEnded, C_NotShown, C_NotTaken, C_NothingDone]) := ⟨_, hp5, ErL.append (ErL.same (t5.trans w5) W36) (ErL.same (t5.trans w5) E36)⟩
      clear e31 E31  e32 E32  e33 E33  e34 E34  e35 E35  e36 E36 
      refine ⟨_, rfl, _, rfl, fun a37 na37 => ?_⟩
      have s37 : Same B5 (upd B5 a37 (ExO (.ref C_NothingUndone) a37)) := same_new na37
      have e37 : ExAt K (upd B5 a37 (ExO (.ref C_NothingUndone) a37)) a37 (.ref C_NothingUndone) := .bare k_NothingUndone upd_same
      generalize upd B5 a37 (ExO (.ref C_NothingUndone) a37) = G37 at s37 e37 ⊢
      clear na37
      have U37 := U36.trans s37
      have E37 : ErL K G37 [.ref a37] [C_NothingUndone] := ⟨⟨a37, rfl, e37⟩, True.intro⟩
      have hq37 := s37 _ _ hp5
      have W37 := ErL.same s37 F5
      refine ⟨_, rfl, by show 1 ≤ 1000; decide, fun a38 na38 => ⟨a38, [_], rfl, rfl, upd_same, fun d38 G38 nd38 ne38 ea38 ed38 st38 => ⟨rfl, ?_⟩⟩⟩
      have s38 : Same G37 G38 := fun b o e => st38 b o (ne_of_none e na38) (by rw [upd_ne (ne_of_none e na38)]; exact e)
      have e38 : ExAt K G38 a38 (.ref C_OtherCode) := .dict k_OtherCode ea38 ed38
      clear st38 ea38 ed38 nd38 ne38 na38
      have U38 := U37.trans s38
      have E38 := E37.snoc s38 e38
      have hq38 := s38 _ _ hq37
      have W38 := ErL.same s38 W37
      refine ⟨_, rfl, _, rfl, by show 2 ≤ 1000; decide, fun a39 na39 => ⟨a39, [_, _], rfl, rfl, upd_same, fun d39 G39 nd39 ne39 ea39 ed39 st39 => ⟨rfl, ?_⟩⟩⟩
      have s39 : Same G38 G39 := fun b o e => st39 b o (ne_of_none e na39) (by rw [upd_ne (ne_of_none e na39)]; exact e)
      have e39 : ExAt K G39 a39 (.ref C_Refused) := .dict k_Refused ea39 ed39
      clear st39 ea39 ed39 nd39 ne39 na39
      have U39 := U38.trans s39
      have E39 := E38.snoc s39 e39
      have hq39 := s39 _ _ hq38
      have W39 := ErL.same s39 W38
      refine ⟨_, rfl, by show 1 ≤ 1000; decide, fun a40 na40 => ⟨a40, [_], rfl, rfl, upd_same, fun d40 G40 nd40 ne40 ea40 ed40 st40 => ⟨rfl, ?_⟩⟩⟩
      have s40 : Same G39 G40 := fun b o e => st40 b o (ne_of_none e na40) (by rw [upd_ne (ne_of_none e na40)]; exact e)
      have e40 : ExAt K G40 a40 (.ref C_Ring) := .dict k_Ring ea40 ed40
      clear st40 ea40 ed40 nd40 ne40 na40
      have U40 := U39.trans s40
      have E40 := E39.snoc s40 e40
      have hq40 := s40 _ _ hq39
      have W40 := ErL.same s40 W39
      refine ⟨_, rfl, fun a41 na41 => ?_⟩
      have s41 : Same G40 (upd G40 a41 (ExO (.ref C_Sealed) a41)) := same_new na41
      have e41 : ExAt K (upd G40 a41 (ExO (.ref C_Sealed) a41)) a41 (.ref C_Sealed) := .bare k_Sealed upd_same
      generalize upd G40 a41 (ExO (.ref C_Sealed) a41) = G41 at s41 e41 ⊢
      clear na41
      have U41 := U40.trans s41
      have E41 := E40.snoc s41 e41
      have hq41 := s41 _ _ hq40
      have W41 := ErL.same s41 W40
      refine ⟨_, rfl, by show 1 ≤ 1000; decide, fun a42 na42 => ⟨a42, [_], rfl, rfl, upd_same, fun d42 G42 nd42 ne42 ea42 ed42 st42 => ⟨rfl, ?_⟩⟩⟩
      have s42 : Same G41 G42 := fun b o e => st42 b o (ne_of_none e na42) (by rw [upd_ne (ne_of_none e na42)]; exact e)
      have e42 : ExAt K G42 a42 (.ref C_TooMany) := .dict k_TooMany ea42 ed42
      clear st42 ea42 ed42 nd42 ne42 na42
      have U42 := U41.trans s42
      have E42 := E41.snoc s42 e42
      have hq42 := s42 _ _ hq41
      have W42 := ErL.same s42 W41
      refine lst_newS (by show 6 ≤ 1000; decide) fun r6 R6 t6 hr6 => ?_
      have l6 : X5.length = 36 := W42.length
      refine add_lS (t6 _ _ hq42) hr6 rfl (by rw [l6]; show 36 + 6 ≤ 1000; decide) fun p6 B6 w6 hp6 => ?_
      replace U42 := (U42.trans t6).trans w6
      obtain ⟨X6, hp6, F6⟩ : ∃ X, B6 p6 = some (.lst X) ∧ ErL K B6 X (((((([C_Astray, C_BadBlock, C_BadBook, C_BadContext, C_BadDeclaration, C_BadDeed] ++ [C_BadErased, C_BadImage, C_BadLines, C_BadMaker, C_BadModule, C_BadMoments]) ++ [C_BadName, C_BadNumber, C_BadObject, C_BadPlace, C_BadRule, C_BadSeal]) ++ [C_BadSize, C_BadState, C_BadSurface, C_BadTerm, C_BadText, C_BadTexts]) ++ [C_BadTree, C_BadType, C_BadUses, C_BadWord, C_BadWorld, C_Bent]) ++ [C_Lacking, C_NameTwice, C_NotEnded, C_NotShown, C_NotTaken, C_NothingDone]) ++ [C_NothingUndone, C_OtherCode, C_Refused, C_Ring, C_Sealed, C_TooMany]) := ⟨_, hp6, ErL.append (ErL.same (t6.trans w6) W42) (ErL.same (t6.trans w6) E42)⟩
      clear e37 E37  e38 E38  e39 E39  e40 E40  e41 E41  e42 E42 
      refine ⟨_, rfl, _, rfl, by show 1 ≤ 1000; decide, fun a43 na43 => ⟨a43, [_], rfl, rfl, upd_same, fun d43 G43 nd43 ne43 ea43 ed43 st43 => ⟨rfl, ?_⟩⟩⟩
      have s43 : Same B6 G43 := fun b o e => st43 b o (ne_of_none e na43) (by rw [upd_ne (ne_of_none e na43)]; exact e)
      have e43 : ExAt K G43 a43 (.ref C_TooSmall) := .dict k_TooSmall ea43 ed43
      clear st43 ea43 ed43 nd43 ne43 na43
      have U43 := U42.trans s43
      have E43 : ErL K G43 [.ref a43] [C_TooSmall] := ⟨⟨a43, rfl, e43⟩, True.intro⟩
      have hq43 := s43 _ _ hp6
      have W43 := ErL.same s43 F6
      refine ⟨_, rfl, by show 1 ≤ 1000; decide, fun a44 na44 => ⟨a44, [_], rfl, rfl, upd_same, fun d44 G44 nd44 ne44 ea44 ed44 st44 => ⟨rfl, ?_⟩⟩⟩
      have s44 : Same G43 G44 := fun b o e => st44 b o (ne_of_none e na44) (by rw [upd_ne (ne_of_none e na44)]; exact e)
      have e44 : ExAt K G44 a44 (.ref C_Unlike) := .dict k_Unlike ea44 ed44
      clear st44 ea44 ed44 nd44 ne44 na44
      have U44 := U43.trans s44
      have E44 := E43.snoc s44 e44
      have hq44 := s44 _ _ hq43
      have W44 := ErL.same s44 W43
      refine ⟨_, rfl, by show 1 ≤ 1000; decide, fun a45 na45 => ⟨a45, [_], rfl, rfl, upd_same, fun d45 G45 nd45 ne45 ea45 ed45 st45 => ⟨rfl, ?_⟩⟩⟩
      have s45 : Same G44 G45 := fun b o e => st45 b o (ne_of_none e na45) (by rw [upd_ne (ne_of_none e na45)]; exact e)
      have e45 : ExAt K G45 a45 (.ref C_Untyped) := .dict k_Untyped ea45 ed45
      clear st45 ea45 ed45 nd45 ne45 na45
      have U45 := U44.trans s45
      have E45 := E44.snoc s45 e45
      have hq45 := s45 _ _ hq44
      have W45 := ErL.same s45 W44
      refine ⟨_, rfl, fun a46 na46 => ?_⟩
      have s46 : Same G45 (upd G45 a46 (ExO (.ref C_Used) a46)) := same_new na46
      have e46 : ExAt K (upd G45 a46 (ExO (.ref C_Used) a46)) a46 (.ref C_Used) := .bare k_Used upd_same
      generalize upd G45 a46 (ExO (.ref C_Used) a46) = G46 at s46 e46 ⊢
      clear na46
      have U46 := U45.trans s46
      have E46 := E45.snoc s46 e46
      have hq46 := s46 _ _ hq45
      have W46 := ErL.same s46 W45
      refine lst_newS (by show 4 ≤ 1000; decide) fun r7 R7 t7 hr7 => ?_
      have l7 : X6.length = 42 := W46.length
      refine add_lS (t7 _ _ hq46) hr7 rfl (by rw [l7]; show 42 + 4 ≤ 1000; decide) fun p7 B7 w7 hp7 => ?_
      replace U46 := (U46.trans t7).trans w7
      obtain ⟨X7, hp7, F7⟩ : ∃ X, B7 p7 = some (.lst X) ∧ ErL K B7 X ((((((([C_Astray, C_BadBlock, C_BadBook, C_BadContext, C_BadDeclaration, C_BadDeed] ++ [C_BadErased, C_BadImage, C_BadLines, C_BadMaker, C_BadModule, C_BadMoments]) ++ [C_BadName, C_BadNumber, C_BadObject, C_BadPlace, C_BadRule, C_BadSeal]) ++ [C_BadSize, C_BadState, C_BadSurface, C_BadTerm, C_BadText, C_BadTexts]) ++ [C_BadTree, C_BadType, C_BadUses, C_BadWord, C_BadWorld, C_Bent]) ++ [C_Lacking, C_NameTwice, C_NotEnded, C_NotShown, C_NotTaken, C_NothingDone]) ++ [C_NothingUndone, C_OtherCode, C_Refused, C_Ring, C_Sealed, C_TooMany]) ++ [C_TooSmall, C_Unlike, C_Untyped, C_Used]) := ⟨_, hp7, ErL.append (ErL.same (t7.trans w7) W46) (ErL.same (t7.trans w7) E46)⟩
      have FF : ErL K B7 X7 [C_Astray, C_BadBlock, C_BadBook, C_BadContext, C_BadDeclaration, C_BadDeed, C_BadErased, C_BadImage, C_BadLines, C_BadMaker, C_BadModule, C_BadMoments, C_BadName, C_BadNumber, C_BadObject, C_BadPlace, C_BadRule, C_BadSeal, C_BadSize, C_BadState, C_BadSurface, C_BadTerm, C_BadText, C_BadTexts, C_BadTree, C_BadType, C_BadUses, C_BadWord, C_BadWorld, C_Bent, C_Lacking, C_NameTwice, C_NotEnded, C_NotShown, C_NotTaken, C_NothingDone, C_NothingUndone, C_OtherCode, C_Refused, C_Ring, C_Sealed, C_TooMany, C_TooSmall, C_Unlike, C_Untyped, C_Used] := F7
      have lX : X7.length = 46 := FF.length
      have SB : Stt B7 d g c (T + 3) := S5.keep U46
      clear U1 s1 U2 s2 U3 s3 U4 s4 U5 s5 U6 s6 U7 s7 U8 s8 U9 s9 U10 s10 U11 s11 U12 s12 U13 s13 U14 s14 U15 s15 U16 s16 U17 s17 U18 s18 U19 s19 U20 s20 U21 s21 U22 s22 U23 s23 U24 s24 U25 s25 U26 s26 U27 s27 U28 s28 U29 s29 U30 s30 U31 s31 U32 s32 U33 s33 U34 s34 U35 s35 U36 s36 U37 s37 U38 s38 U39 s39 U40 s40 U41 s41 U42 s42 U43 s43 U44 s44 U45 s45 U46 s46
      refine ⟨_, rfl, p7, X7, rfl, SqL.of hp7, for_it walk_enum (fun j σ H => (∃ v10 v11 v12 : Option V, σ = [some (.ref a), some (.ref d), some (.int (0 + (i : Int))), some (.ref p7), v4, v5, v6, some (.str tx), some (.int nu), some (.int ot), v10, v11, v12]) ∧ Same B7 H)
        ⟨⟨_, _, _, rfl⟩, Same.refl _⟩ (fun j σ H _ ⟨_, e⟩ => SqL.of (e _ _ hp7)) ?_ ?_⟩
      · rintro j x σ H H' hj ⟨⟨v10, v11, v12, rfl⟩, e⟩ ⟨T', x', z, rfl, nT, rfl, h1, h2⟩
        cases h1
        obtain ⟨ea, C, rfl, hC, ee⟩ := (ErL.same e FF).get h2
        have s1 : Same H (upd H T' (.tup [.int (j : Nat), .ref ea])) := same_new nT
        have hT : upd H T' (.tup [.int (j : Nat), .ref ea]) T' = some (.tup [.int (j : Nat), .ref ea]) := upd_same
        generalize upd H T' (.tup [.int (j : Nat), .ref ea]) = H2 at s1 hT ⊢
        refine ⟨T', _, rfl, SqT.of hT, rfl, _, _, rfl, _, _, rfl, rfl, ?_⟩
        refine ⟨_, rfl, ⟨ea, .ref C, fun k => k == j, rfl, ee.same s1, fun k D hk => kit1 j C hC k D hk, fun q H3 s3 hq => ?_⟩⟩
        have e3 := ee.same (s1.trans s3)
        have hp3 := s3 _ _ (s1 _ _ (e _ _ hp7))
        obtain ⟨ku1, ku2⟩ := kitU j C hC
        refine ⟨_, rfl, _, X7.length, rfl, .inl ⟨X7, SqL.of hp3, rfl⟩, (X7.length : Int), rfl, by omega, by omega, fun D nD => lc_range (fun k H4 => Same H3 H4 ∧ H4 D = some (.lst (flL (fun k => k == j) k))) ⟨same_new nD, upd_same⟩ (fun k H4 hk ⟨c1, c2⟩ => ?_) (fun H4 ⟨c1, c2⟩ => ?_)⟩
        · refine ⟨rfl, _, rfl, _, rfl, eq_f rfl (eqI k j) ⟨_, c2, by rw [flLen]; exact lt_line (by omega), fun b o e => ?_, ?_⟩⟩
          · rw [upd_ne (ne_of_none e nD)]; exact c1 b o e
          · rw [upd_same, fl1]
        · rw [show ((X7.length : Nat) : Int).toNat = 46 by omega] at c2
          refine eq_d (.lst (SqL.of (c1 _ _ hq)) (flDp _ 46)) (.lst (SqL.of c2) (flDp _ 46)) ((flOk _ 46).shaped (by decide)) ((flOk _ 46).shaped (by decide)) (by rw [(flOk _ 46).eqv]; rfl) ⟨_, rfl, iteF ?_⟩
          have e4 := e3.same c1
          refine w_val false (Val.or (a := false) (b := false) (fun Q hQ => ⟨_, rfl, is1 e4 ku1 ⟨_, rfl, hQ⟩⟩) (fun _ Q hQ => ⟨_, rfl, isVE e4 ku2 ⟨_, rfl, hQ⟩⟩)) (iteF ?_)
          exact ⟨⟨_, _, _, rfl⟩, e.trans (s1.trans (s3.trans c1))⟩
      · rintro σ H ⟨⟨v10, v11, v12, rfl⟩, e⟩
        refine ⟨_, rfl, fun ba nba => ?_⟩
        have s1 : Same H (upd H ba (ExO (.ref C_TongueError) ba)) := same_new nba
        have e1 : ExAt K (upd H ba (ExO (.ref C_TongueError) ba)) ba (.ref C_TongueError) := .bare k_TongueError upd_same
        generalize upd H ba (ExO (.ref C_TongueError) ba) = H2 at s1 e1 ⊢
        refine ⟨⟨_, rfl, ⟨ba, .ref C_TongueError, fun _ => false, rfl, e1, kitT, fun q H3 s3 hq => in_l (SqL.of hq) rfl (by rfl) (b := false) (by rfl) ⟨_, rfl, iteF ?_⟩⟩⟩⟩
        refine ⟨_, rfl, isVE (e1.same s3) kTV ⟨_, rfl, iteF ?_⟩⟩
        refine ⟨_, rfl, fun va nva => is1 (.ve upd_same) kVT ⟨_, rfl, iteF ?_⟩⟩
        have s4 : Same H3 (upd H3 va (ExO (.type "ValueError") va)) := same_new nva
        generalize upd H3 va (ExO (.type "ValueError") va) = H4 at s4 ⊢
        have eB : Same B7 H4 := e.trans (s1.trans (s3.trans s4))

        refine ⟨_, rfl, by show 1 ≤ 1000; decide, fun a1 na1 => ⟨a1, [_], rfl, rfl, upd_same, fun d1 G1 nd1 ne1 ea1 ed1 st1 => ⟨rfl, fldS k_BadLines no_BadLines_index ea1 ed1 lk1 ?_⟩⟩⟩
        have z1 : Same H4 G1 := fun b o e => st1 b o (ne_of_none e na1) (by rw [upd_ne (ne_of_none e na1)]; exact e)
        have y1 : Same B7 G1 := eB.trans z1
        refine ⟨_, rfl, rfl, fun a2 na2 => ⟨a2, [_], rfl, rfl, upd_same, fun d2 G2 nd2 ne2 ea2 ed2 st2 => ⟨rfl, fldS k_BadLines no_BadLines_index ea2 ed2 lk1 ?_⟩⟩⟩
        have z2 : Same G1 G2 := fun b o e => st2 b o (ne_of_none e na2) (by rw [upd_ne (ne_of_none e na2)]; exact e)
        have y2 : Same B7 G2 := y1.trans z2
        refine ⟨_, rfl, by show 1 ≤ 1000; decide, fun a3 na3 => ⟨a3, [_], rfl, rfl, upd_same, fun d3 G3 nd3 ne3 ea3 ed3 st3 => ⟨rfl, fldS k_BadText no_BadText_at ea3 ed3 lk1 ?_⟩⟩⟩
        have z3 : Same G2 G3 := fun b o e => st3 b o (ne_of_none e na3) (by rw [upd_ne (ne_of_none e na3)]; exact e)
        have y3 : Same B7 G3 := y2.trans z3
        refine ⟨_, rfl, rfl, fun a4 na4 => ⟨a4, [_], rfl, rfl, upd_same, fun d4 G4 nd4 ne4 ea4 ed4 st4 => ⟨rfl, fldS k_BadText no_BadText_at ea4 ed4 lk1 ?_⟩⟩⟩
        have z4 : Same G3 G4 := fun b o e => st4 b o (ne_of_none e na4) (by rw [upd_ne (ne_of_none e na4)]; exact e)
        have y4 : Same B7 G4 := y3.trans z4
        refine ⟨_, rfl, by show 1 ≤ 1000; decide, fun a5 na5 => ⟨a5, [_], rfl, rfl, upd_same, fun d5 G5 nd5 ne5 ea5 ed5 st5 => ⟨rfl, fldS k_BadTexts no_BadTexts_index ea5 ed5 lk1 ?_⟩⟩⟩
        have z5 : Same G4 G5 := fun b o e => st5 b o (ne_of_none e na5) (by rw [upd_ne (ne_of_none e na5)]; exact e)
        have y5 : Same B7 G5 := y4.trans z5
        refine ⟨_, rfl, rfl, fun a6 na6 => ⟨a6, [_], rfl, rfl, upd_same, fun d6 G6 nd6 ne6 ea6 ed6 st6 => ⟨rfl, fldS k_BadTexts no_BadTexts_index ea6 ed6 lk1 ?_⟩⟩⟩
        have z6 : Same G5 G6 := fun b o e => st6 b o (ne_of_none e na6) (by rw [upd_ne (ne_of_none e na6)]; exact e)
        have y6 : Same B7 G6 := y5.trans z6
        refine lst_newS (by show 6 ≤ 1000; decide) fun l0 T0 t0 hl0 => ?_
        have x0 : Same B7 T0 := y6.trans t0
        refine ⟨_, rfl, _, rfl, by show 1 ≤ 1000; decide, fun a7 na7 => ⟨a7, [_], rfl, rfl, upd_same, fun d7 G7 nd7 ne7 ea7 ed7 st7 => ⟨rfl, fldS k_Bent no_Bent_line ea7 ed7 lk1 ?_⟩⟩⟩
        have z7 : Same T0 G7 := fun b o e => st7 b o (ne_of_none e na7) (by rw [upd_ne (ne_of_none e na7)]; exact e)
        have y7 : Same B7 G7 := x0.trans z7
        have j7 := z7 _ _ hl0
        refine ⟨_, rfl, rfl, fun a8 na8 => ⟨a8, [_], rfl, rfl, upd_same, fun d8 G8 nd8 ne8 ea8 ed8 st8 => ⟨rfl, fldS k_Bent no_Bent_line ea8 ed8 lk1 ?_⟩⟩⟩
        have z8 : Same G7 G8 := fun b o e => st8 b o (ne_of_none e na8) (by rw [upd_ne (ne_of_none e na8)]; exact e)
        have y8 : Same B7 G8 := y7.trans z8
        have j8 := z8 _ _ j7
        refine ⟨_, rfl, by show 1 ≤ 1000; decide, fun a9 na9 => ⟨a9, [_], rfl, rfl, upd_same, fun d9 G9 nd9 ne9 ea9 ed9 st9 => ⟨rfl, fldS k_Lacking no_Lacking_name ea9 ed9 lk1 ?_⟩⟩⟩
        have z9 : Same G8 G9 := fun b o e => st9 b o (ne_of_none e na9) (by rw [upd_ne (ne_of_none e na9)]; exact e)
        have y9 : Same B7 G9 := y8.trans z9
        have j9 := z9 _ _ j8
        refine ⟨_, rfl, rfl, fun a10 na10 => ⟨a10, [_], rfl, rfl, upd_same, fun d10 G10 nd10 ne10 ea10 ed10 st10 => ⟨rfl, fldS k_Lacking no_Lacking_name ea10 ed10 lk1 ?_⟩⟩⟩
        have z10 : Same G9 G10 := fun b o e => st10 b o (ne_of_none e na10) (by rw [upd_ne (ne_of_none e na10)]; exact e)
        have y10 : Same B7 G10 := y9.trans z10
        have j10 := z10 _ _ j9
        refine ⟨_, rfl, by show 1 ≤ 1000; decide, fun a11 na11 => ⟨a11, [_], rfl, rfl, upd_same, fun d11 G11 nd11 ne11 ea11 ed11 st11 => ⟨rfl, fldS k_NameTwice no_NameTwice_name ea11 ed11 lk1 ?_⟩⟩⟩
        have z11 : Same G10 G11 := fun b o e => st11 b o (ne_of_none e na11) (by rw [upd_ne (ne_of_none e na11)]; exact e)
        have y11 : Same B7 G11 := y10.trans z11
        have j11 := z11 _ _ j10
        refine ⟨_, rfl, rfl, fun a12 na12 => ⟨a12, [_], rfl, rfl, upd_same, fun d12 G12 nd12 ne12 ea12 ed12 st12 => ⟨rfl, fldS k_NameTwice no_NameTwice_name ea12 ed12 lk1 ?_⟩⟩⟩
        have z12 : Same G11 G12 := fun b o e => st12 b o (ne_of_none e na12) (by rw [upd_ne (ne_of_none e na12)]; exact e)
        have y12 : Same B7 G12 := y11.trans z12
        have j12 := z12 _ _ j11
        refine lst_newS (by show 6 ≤ 1000; decide) fun r1 R1 t1 hr1 => ?_
        refine add_lS (ys := List.replicate 12 (V.int nu)) (t1 _ _ j12) hr1 rfl (by show 6 + 6 ≤ 1000; decide) fun l1 T1 w1 hl1 => ?_
        have x1 : Same B7 T1 := y12.trans (t1.trans w1)
        refine ⟨_, rfl, _, rfl, by show 1 ≤ 1000; decide, fun a13 na13 => ⟨a13, [_], rfl, rfl, upd_same, fun d13 G13 nd13 ne13 ea13 ed13 st13 => ⟨rfl, fldS k_NotTaken no_NotTaken_name ea13 ed13 lk1 ?_⟩⟩⟩
        have z13 : Same T1 G13 := fun b o e => st13 b o (ne_of_none e na13) (by rw [upd_ne (ne_of_none e na13)]; exact e)
        have y13 : Same B7 G13 := x1.trans z13
        have j13 := z13 _ _ hl1
        refine ⟨_, rfl, rfl, fun a14 na14 => ⟨a14, [_], rfl, rfl, upd_same, fun d14 G14 nd14 ne14 ea14 ed14 st14 => ⟨rfl, fldS k_NotTaken no_NotTaken_name ea14 ed14 lk1 ?_⟩⟩⟩
        have z14 : Same G13 G14 := fun b o e => st14 b o (ne_of_none e na14) (by rw [upd_ne (ne_of_none e na14)]; exact e)
        have y14 : Same B7 G14 := y13.trans z14
        have j14 := z14 _ _ j13
        refine ⟨_, rfl, by show 1 ≤ 1000; decide, fun a15 na15 => ⟨a15, [_], rfl, rfl, upd_same, fun d15 G15 nd15 ne15 ea15 ed15 st15 => ⟨rfl, fldS k_OtherCode no_OtherCode_own ea15 ed15 lk1 ?_⟩⟩⟩
        have z15 : Same G14 G15 := fun b o e => st15 b o (ne_of_none e na15) (by rw [upd_ne (ne_of_none e na15)]; exact e)
        have y15 : Same B7 G15 := y14.trans z15
        have j15 := z15 _ _ j14
        refine ⟨_, rfl, rfl, fun a16 na16 => ⟨a16, [_], rfl, rfl, upd_same, fun d16 G16 nd16 ne16 ea16 ed16 st16 => ⟨rfl, fldS k_OtherCode no_OtherCode_own ea16 ed16 lk1 ?_⟩⟩⟩
        have z16 : Same G15 G16 := fun b o e => st16 b o (ne_of_none e na16) (by rw [upd_ne (ne_of_none e na16)]; exact e)
        have y16 : Same B7 G16 := y15.trans z16
        have j16 := z16 _ _ j15
        refine ⟨_, rfl, by show 1 ≤ 1000; decide, fun a17 na17 => ⟨a17, [_], rfl, rfl, upd_same, fun d17 G17 nd17 ne17 ea17 ed17 st17 => ⟨rfl, fldS k_Ring no_Ring_module ea17 ed17 lk1 ?_⟩⟩⟩
        have z17 : Same G16 G17 := fun b o e => st17 b o (ne_of_none e na17) (by rw [upd_ne (ne_of_none e na17)]; exact e)
        have y17 : Same B7 G17 := y16.trans z17
        have j17 := z17 _ _ j16
        refine ⟨_, rfl, rfl, fun a18 na18 => ⟨a18, [_], rfl, rfl, upd_same, fun d18 G18 nd18 ne18 ea18 ed18 st18 => ⟨rfl, fldS k_Ring no_Ring_module ea18 ed18 lk1 ?_⟩⟩⟩
        have z18 : Same G17 G18 := fun b o e => st18 b o (ne_of_none e na18) (by rw [upd_ne (ne_of_none e na18)]; exact e)
        have y18 : Same B7 G18 := y17.trans z18
        have j18 := z18 _ _ j17
        refine lst_newS (by show 6 ≤ 1000; decide) fun r2 R2 t2 hr2 => ?_
        refine add_lS (ys := List.replicate 18 (V.int nu)) (t2 _ _ j18) hr2 rfl (by show 12 + 6 ≤ 1000; decide) fun l2 T2 w2 hl2 => ?_
        have x2 : Same B7 T2 := y18.trans (t2.trans w2)
        refine ⟨_, rfl, _, rfl, by show 1 ≤ 1000; decide, fun a19 na19 => ⟨a19, [_], rfl, rfl, upd_same, fun d19 G19 nd19 ne19 ea19 ed19 st19 => ⟨rfl, fldS k_TooMany no_TooMany_most ea19 ed19 lk1 ?_⟩⟩⟩
        have z19 : Same T2 G19 := fun b o e => st19 b o (ne_of_none e na19) (by rw [upd_ne (ne_of_none e na19)]; exact e)
        have y19 : Same B7 G19 := x2.trans z19
        have j19 := z19 _ _ hl2
        refine ⟨_, rfl, rfl, fun a20 na20 => ⟨a20, [_], rfl, rfl, upd_same, fun d20 G20 nd20 ne20 ea20 ed20 st20 => ⟨rfl, fldS k_TooMany no_TooMany_most ea20 ed20 lk1 ?_⟩⟩⟩
        have z20 : Same G19 G20 := fun b o e => st20 b o (ne_of_none e na20) (by rw [upd_ne (ne_of_none e na20)]; exact e)
        have y20 : Same B7 G20 := y19.trans z20
        have j20 := z20 _ _ j19
        refine ⟨_, rfl, by show 1 ≤ 1000; decide, fun a21 na21 => ⟨a21, [_], rfl, rfl, upd_same, fun d21 G21 nd21 ne21 ea21 ed21 st21 => ⟨rfl, fldS k_TooSmall no_TooSmall_least ea21 ed21 lk1 ?_⟩⟩⟩
        have z21 : Same G20 G21 := fun b o e => st21 b o (ne_of_none e na21) (by rw [upd_ne (ne_of_none e na21)]; exact e)
        have y21 : Same B7 G21 := y20.trans z21
        have j21 := z21 _ _ j20
        refine ⟨_, rfl, rfl, fun a22 na22 => ⟨a22, [_], rfl, rfl, upd_same, fun d22 G22 nd22 ne22 ea22 ed22 st22 => ⟨rfl, fldS k_TooSmall no_TooSmall_least ea22 ed22 lk1 ?_⟩⟩⟩
        have z22 : Same G21 G22 := fun b o e => st22 b o (ne_of_none e na22) (by rw [upd_ne (ne_of_none e na22)]; exact e)
        have y22 : Same B7 G22 := y21.trans z22
        have j22 := z22 _ _ j21
        refine ⟨_, rfl, by show 1 ≤ 1000; decide, fun a23 na23 => ⟨a23, [_], rfl, rfl, upd_same, fun d23 G23 nd23 ne23 ea23 ed23 st23 => ⟨rfl, fldS k_Unlike no_Unlike_name ea23 ed23 lk1 ?_⟩⟩⟩
        have z23 : Same G22 G23 := fun b o e => st23 b o (ne_of_none e na23) (by rw [upd_ne (ne_of_none e na23)]; exact e)
        have y23 : Same B7 G23 := y22.trans z23
        have j23 := z23 _ _ j22
        refine ⟨_, rfl, rfl, fun a24 na24 => ⟨a24, [_], rfl, rfl, upd_same, fun d24 G24 nd24 ne24 ea24 ed24 st24 => ⟨rfl, fldS k_Unlike no_Unlike_name ea24 ed24 lk1 ?_⟩⟩⟩
        have z24 : Same G23 G24 := fun b o e => st24 b o (ne_of_none e na24) (by rw [upd_ne (ne_of_none e na24)]; exact e)
        have y24 : Same B7 G24 := y23.trans z24
        have j24 := z24 _ _ j23
        refine lst_newS (by show 6 ≤ 1000; decide) fun r3 R3 t3 hr3 => ?_
        refine add_lS (ys := List.replicate 24 (V.int nu)) (t3 _ _ j24) hr3 rfl (by show 18 + 6 ≤ 1000; decide) fun l3 T3 w3 hl3 => ?_
        have x3 : Same B7 T3 := y24.trans (t3.trans w3)
        refine ⟨_, rfl, _, rfl, by show 1 ≤ 1000; decide, fun a25 na25 => ⟨a25, [_], rfl, rfl, upd_same, fun d25 G25 nd25 ne25 ea25 ed25 st25 => ⟨rfl, fldS k_Untyped no_Untyped_word ea25 ed25 lk1 ?_⟩⟩⟩
        have z25 : Same T3 G25 := fun b o e => st25 b o (ne_of_none e na25) (by rw [upd_ne (ne_of_none e na25)]; exact e)
        have y25 : Same B7 G25 := x3.trans z25
        have j25 := z25 _ _ hl3
        refine ⟨_, rfl, rfl, fun a26 na26 => ⟨a26, [_], rfl, rfl, upd_same, fun d26 G26 nd26 ne26 ea26 ed26 st26 => ⟨rfl, fldS k_Untyped no_Untyped_word ea26 ed26 lk1 ?_⟩⟩⟩
        have z26 : Same G25 G26 := fun b o e => st26 b o (ne_of_none e na26) (by rw [upd_ne (ne_of_none e na26)]; exact e)
        have y26 : Same B7 G26 := y25.trans z26
        have j26 := z26 _ _ j25
        refine lst_newS (by show 2 ≤ 1000; decide) fun r4 R4 t4 hr4 => ?_
        refine add_lS (ys := List.replicate 26 (V.int nu)) (t4 _ _ j26) hr4 rfl (by show 24 + 2 ≤ 1000; decide) fun l4 T4 w4 hl4 => ?_
        have x4 : Same B7 T4 := y26.trans (t4.trans w4)
        refine ⟨_, rfl, rpL (SqL.of hl4) (rep_dt (.int nu) 26) (rep_ok (by omega) 26) (by decide) (by rw [List.length_replicate]; decide) ?_⟩
        refine ⟨_, rfl, lst_newS (by show 1 ≤ 1000; decide) fun n0 N0 t5 hn0 => mul_l (xs := []) ⟨n0, 26, [.int nu], rfl, rfl, hn0, by decide, by decide, by show 1 * 26 ≤ sizeLine; rw [sizeLine_eq]; decide, fun p np => ?_⟩⟩
        have s5 : Same N0 (upd N0 p (.lst (List.replicate (Int.toNat 26) [V.int nu]).flatten)) := same_new np
        have h5 : upd N0 p (.lst (List.replicate (Int.toNat 26) [V.int nu]).flatten) p = some (.lst (List.replicate 26 (V.int nu))) := upd_same
        refine rpL (SqL.of h5) (rep_dt (.int nu) 26) (rep_ok (by omega) 26) (by decide) (by rw [List.length_replicate]; decide) (eq_f rfl (b := false) (by simp) ⟨_, rfl, iteF ?_⟩)
        have x5 := x4.trans (t5.trans s5)
        clear h5 s5
        generalize upd N0 p (.lst (List.replicate (Int.toNat 26) [V.int nu]).flatten) = M0 at x5 ⊢
        refine ⟨_, rfl, _, rfl, by show 2 ≤ 1000; decide, fun a27 na27 => ⟨a27, [_, _], rfl, rfl, upd_same, fun d27 G27 nd27 ne27 ea27 ed27 st27 => ⟨rfl, ?_⟩⟩⟩
        have z27 : Same M0 G27 := fun b o e => st27 b o (ne_of_none e na27) (by rw [upd_ne (ne_of_none e na27)]; exact e)
        refine ⟨_, rfl, _, rfl, rfl, fun a28 na28 => ⟨a28, [_, _], rfl, rfl, upd_same, fun d28 G28 nd28 ne28 ea28 ed28 st28 => ⟨rfl, ?_⟩⟩⟩
        have z28 : Same G27 G28 := fun b o e => st28 b o (ne_of_none e na28) (by rw [upd_ne (ne_of_none e na28)]; exact e)
        refine lst_newS (by show 2 ≤ 1000; decide) fun lb HB tb hb => ?_
        have xB : Same B7 HB := x5.trans (z27.trans (z28.trans tb))
        have rf : ∀ (i : Nat) (x : V), ([.ref a27, .ref a28] : List V)[i]? = some x → ∃ a d, x = .ref a ∧ HB a = some (exo a C_Refused (some d)) ∧ HB d = some (exd d (fs2 "name" "word" [.int nu, .int ot])) := by
          intro i x e
          match i, e with
          | 0, e => exact ⟨a27, d27, (Option.some.inj e).symm, tb _ _ (z28 _ _ ea27), tb _ _ (z28 _ _ ed27)⟩
          | 1, e => exact ⟨a28, d28, (Option.some.inj e).symm, tb _ _ ea28, tb _ _ ed28⟩
        refine ⟨_, rfl, lb, rfl, .inl ⟨⟨_, SqL.of hb⟩, fun D nD => lc_list (K := K) (a := lb) (xs := [.ref a27, .ref a28]) (fun i H => Same HB H ∧ ∃ acc, H D = some (.lst acc) ∧ acc.length = i ∧ DtAll K H acc (List.replicate i (PyData.tuple [.int nu, .int ot]))) ⟨same_new nD, [], upd_same, rfl, .nil⟩ (fun i H hi ⟨c1, _⟩ => SqL.of (c1 _ _ hb)) (fun i x H hx ⟨c1, acc, hD, hl, dA⟩ => ?_) (fun H4 ⟨c1, acc, hD, hl, dA⟩ => ?_)⟩⟩
        · obtain ⟨ea, ed, rfl, h1, h2⟩ := rf i x hx
          have hi : i < 2 := (List.getElem?_eq_some_iff.mp hx).1
          refine ⟨rfl, _, rfl, fldS k_Refused no_Refused_name (c1 _ _ h1) (c1 _ _ h2) (v := .int nu) lk2n ⟨_, rfl, fldS k_Refused no_Refused_word (c1 _ _ h1) (c1 _ _ h2) (v := .int ot) lk2w (tup_at (by show 2 ≤ 1000; decide) fun q nq => ?_)⟩⟩
          have hDq : upd H q (.tup [.int nu, .int ot]) D = some (.lst acc) := by rw [upd_ne (ne_of_none hD nq)]; exact hD
          refine ⟨acc, hDq, lt_line (by omega), fun b o e => ?_, _, upd_same, by rw [List.length_append, hl]; rfl, ?_⟩
          · rw [upd_ne (ne_of_none e nD), upd_ne (ne_of_none (c1 _ _ e) nq)]; exact c1 _ _ e
          · rw [List.replicate_succ']
            have tk := (TK.new (K := K) (o := .tup [.int nu, .int ot]) nq).trans (TK.lst (K := K) (o := .lst (acc ++ [.ref q])) hDq)
            refine (DtAll.keep tk _ dA).append (.cons (.tup (SqT.of ?_) (.cons (.int _) (.cons (.int _) .nil))) .nil)
            rw [upd_ne (by intro z; rw [z] at nq; rw [nq] at hD; cases hD), upd_same]
        · have okT : ∀ n : Nat, OkdA (List.replicate n (PyData.tuple [.int nu, .int ot])) 1 ((List.replicate n (PyData.tuple [.int nu, .int ot])).length * (64 + 1 + (64 + 1 + 0) + 1)) := fun n => OkdA.all _ fun d hd => by
            rw [(List.mem_replicate.mp hd).2]
            exact (OkdA.cons (Okd.int (Nat.lt_trans (show nu.natAbs < 1000 by omega) (by decide))) (OkdA.cons (Okd.int (Nat.lt_trans (show ot.natAbs < 1000 by omega) (by decide))) OkdA.nil)).tup
          refine rpL (SqL.of hD) dA (okT 2) (by decide) (by rw [List.length_replicate]; decide) ?_
          refine ⟨_, rfl, _, rfl, tup_at (by show 2 ≤ 1000; decide) fun q nq => lst_newS (by show 1 ≤ 1000; decide) fun n1 N1 t6 hn1 => mul_l (xs := []) ⟨n1, 2, [.ref q], rfl, rfl, hn1, by decide, by decide, by show 1 * 2 ≤ sizeLine; rw [sizeLine_eq]; decide, fun p np => ?_⟩⟩
          have hq1 : N1 q = some (.tup [.int nu, .int ot]) := t6 _ _ upd_same
          have hq2 : Dt K (upd N1 p (.lst [.ref q, .ref q])) (.ref q) (PyData.tuple [.int nu, .int ot]) := .tup (SqT.of (by rw [upd_ne (ne_of_none hq1 np)]; exact hq1)) (.cons (.int _) (.cons (.int _) .nil))
          have hp9 : upd N1 p (.lst [.ref q, .ref q]) p = some (.lst [.ref q, .ref q]) := upd_same
          refine rpL (SqL.of hp9) (.cons hq2 (.cons hq2 .nil)) (okT 2) (by decide) (by rw [List.length_replicate]; decide) (eq_f rfl (b := false) (by simp) ⟨_, rfl, iteF ?_⟩)
          exact ⟨⟨_, _, _, _, _, _, _, _, _, _, _, rfl⟩, SB.keep (xB.trans (c1.trans ((same_new nq).trans (t6.trans (same_new np)))))⟩
    · rintro σ H2 _
      exact k _
end
end RS

/-! End0: what the top has written, and the law. Printed by endgen0.py. -/
namespace RS
open PySem PySem.Spec PyProof.Rows L2
def exksB (K : PySem.W.Frag) (cs : List Addr) : Bool := cs.all fun C => exkB K C
theorem exks_of {K : PySem.W.Frag} {cs : List Addr} (h : exksB K cs = true) {C : Addr} (m : C ∈ cs) : ExK K C := exk_of (List.all_eq_true.mp h C m)
def baresB (K : PySem.W.Frag) (cs : List Addr) : Bool := cs.all fun C => PySem.W.excIn K C [.type "ValueError", .type "Exception", .type "BaseException", .type "object"] "ValueError.__new__" && PySem.W.keepIn K (.ref C)
theorem bares_of {K : PySem.W.Frag} {cs : List Addr} (h : baresB K cs = true) {C : Addr} (m : C ∈ cs) : PySem.W.excIn K C [.type "ValueError", .type "Exception", .type "BaseException", .type "object"] "ValueError.__new__" = true ∧ PySem.W.keepIn K (.ref C) = true := by
  have := List.all_eq_true.mp h C m
  simpa using this
def kitsB (K : PySem.W.Frag) (cs : List Addr) (T : Addr) : Bool := (List.range cs.length).all fun i => (cs[i]?).any fun C => kitB K (.ref C) cs (fun j => j == i) && (PySem.W.kitOne K (.ref C) (.ref T) == some true) && (PySem.W.kitOne K (.ref C) (.type "ValueError") == some true)
theorem kits_of {K : PySem.W.Frag} {cs : List Addr} {T : Addr} (h : kitsB K cs T = true) : ∀ (i : Nat) (C : Addr), cs[i]? = some C → (∀ (j : Nat) (D : Addr), cs[j]? = some D → PySem.W.kitOne K (.ref C) (.ref D) = some (j == i)) ∧ PySem.W.kitOne K (.ref C) (.ref T) = some true ∧ PySem.W.kitOne K (.ref C) (.type "ValueError") = some true := by
  intro i C e
  have hi : i < cs.length := (List.getElem?_eq_some_iff.mp e).1
  have := List.all_eq_true.mp h i (List.mem_range.mpr hi)
  rw [e] at this
  simp only [Option.any_some, Bool.and_eq_true, beq_iff_eq] at this
  exact ⟨kit_of this.1.1, this.1.2, this.2⟩
def noB (K : PySem.W.Frag) (ps : List (Addr × List Str)) : Bool := ps.all fun p => p.2.all fun f => PySem.W.findIn K (.ref p.1) f == some none
theorem no_of {K : PySem.W.Frag} {ps : List (Addr × List Str)} (h : noB K ps = true) {C : Addr} {fs : List Str} (m : (C, fs) ∈ ps) {f : Str} (mf : f ∈ fs) : PySem.W.findIn K (.ref C) f = some none := by
  have := List.all_eq_true.mp (List.all_eq_true.mp h _ m) f mf
  simpa using this

def allN : List Str := (["TongueError", "Astray", "BadBlock", "BadBook", "BadContext", "BadDeclaration", "BadDeed", "BadErased", "BadImage", "BadLines", "BadMaker", "BadModule", "BadMoments", "BadName", "BadNumber", "BadObject", "BadPlace", "BadRule", "BadSeal", "BadSize", "BadState", "BadSurface", "BadTerm", "BadText", "BadTexts", "BadTree", "BadType", "BadUses", "BadWord", "BadWorld"] : List Str) ++ (["Bent", "Lacking", "NameTwice", "NotEnded", "NotShown", "NotTaken", "NothingDone", "NothingUndone", "OtherCode", "Refused", "Ring", "Sealed", "TooMany", "TooSmall", "Unlike", "Untyped", "Used"] : List Str)
def bareN : List Str := (["TongueError", "Astray", "BadBlock", "BadBook", "BadContext", "BadDeclaration", "BadDeed", "BadErased", "BadImage", "BadMaker", "BadModule", "BadMoments", "BadName", "BadNumber", "BadObject", "BadPlace", "BadRule", "BadSeal", "BadSize", "BadState", "BadSurface", "BadTerm", "BadTree", "BadType", "BadUses", "BadWord", "BadWorld", "NotEnded", "NotShown", "NothingDone"] : List Str) ++ (["NothingUndone", "Sealed", "Used"] : List Str)
def errN : List Str := (["Astray", "BadBlock", "BadBook", "BadContext", "BadDeclaration", "BadDeed", "BadErased", "BadImage", "BadLines", "BadMaker", "BadModule", "BadMoments", "BadName", "BadNumber", "BadObject", "BadPlace", "BadRule", "BadSeal", "BadSize", "BadState", "BadSurface", "BadTerm", "BadText", "BadTexts", "BadTree", "BadType", "BadUses", "BadWord", "BadWorld", "Bent"] : List Str) ++ (["Lacking", "NameTwice", "NotEnded", "NotShown", "NotTaken", "NothingDone", "NothingUndone", "OtherCode", "Refused", "Ring", "Sealed", "TooMany", "TooSmall", "Unlike", "Untyped", "Used"] : List Str)
def fldN : List (Str × List Str) := [("BadLines", ["index"]), ("BadText", ["at"]), ("BadTexts", ["index"]), ("Bent", ["line"]), ("Lacking", ["name"]), ("NameTwice", ["name"]), ("NotTaken", ["name"]), ("OtherCode", ["own"]), ("Refused", ["name", "word"]), ("Ring", ["module"]), ("TooMany", ["most"]), ("TooSmall", ["least"]), ("Unlike", ["name"]), ("Untyped", ["word"])]
def gas (K : PySem.W.Frag) (ns : List Str) : List Addr := ns.map (He.ga K)
def gafs (K : PySem.W.Frag) : List (Addr × List Str) := fldN.map fun p => (He.ga K p.1, p.2)
def supsB (P : Program) (K : PySem.W.Frag) (ps : List (Str × List Str)) : Bool := ps.all fun p => supB P K (He.ga K p.1) (iniC K p.1) (iniO K p.1) && oexB K (He.ga K p.1)
theorem sups_of {P : Program} {K : PySem.W.Frag} {ps : List (Str × List Str)} (h : supsB P K ps = true) (x : Str) (fs : List Str) (m : (x, fs) ∈ ps) : supB P K (He.ga K x) (iniC K x) (iniO K x) = true ∧ oexB K (He.ga K x) = true := by
  unfold supsB at h
  have z := List.all_eq_true.mp h (x, fs) m
  exact Bool.and_eq_true_iff.mp z
def exB (P : Program) (K : PySem.W.Frag) : Bool := exksB K (gas K allN) && (baresB K (gas K bareN) && (noB K (gafs K) && (kitsB K (gas K errN) (He.ga K "TongueError") && (kitB K (.ref (He.ga K "TongueError")) (gas K errN) (fun _ => false) && ((PySem.W.kitOne K (.ref (He.ga K "TongueError")) (.type "ValueError") == some true) && ((PySem.W.kitOne K (.type "ValueError") (.ref (He.ga K "TongueError")) == some false) && supsB P K fldN))))))
def faL : List He.Fa := ([.glo "TongueError", .glo "Astray", .glo "BadBlock", .glo "BadBook", .glo "BadContext", .glo "BadDeclaration", .glo "BadDeed", .glo "BadErased", .glo "BadImage", .glo "BadLines", .glo "BadMaker", .glo "BadModule", .glo "BadMoments", .glo "BadName", .glo "BadNumber", .glo "BadObject", .glo "BadPlace", .glo "BadRule", .glo "BadSeal", .glo "BadSize", .glo "BadState", .glo "BadSurface", .glo "BadTerm", .glo "BadText", .glo "BadTexts", .glo "BadTree", .glo "BadType", .glo "BadUses", .glo "BadWord", .glo "BadWorld"] : List He.Fa) ++ ([.glo "Bent", .glo "Lacking", .glo "NameTwice", .glo "NotEnded", .glo "NotShown", .glo "NotTaken", .glo "NothingDone", .glo "NothingUndone", .glo "OtherCode", .glo "Refused", .glo "Ring", .glo "Sealed", .glo "TooMany", .glo "TooSmall", .glo "Unlike", .glo "Untyped", .glo "Used", .glo "_law_begun", .glo "_law_blended", .glo "_law_draw", .glo "_law_pick", .glo "_law_k00_flags", .glo "law", .free "abs", .free "int", .free "len", .free "min", .free "range", .free "repr", .free "enumerate"] : List He.Fa) ++ ([.free "isinstance", .free "ValueError", .free "super"] : List He.Fa)
def fnL : List He.DefD := [dfd "_law_begun" s_law_begun, dfd "_law_blended" s_law_blended, dfd "_law_draw" s_law_draw, dfd "_law_pick" s_law_pick, dfd "_law_k00_flags" s_law_k00_flags, dfd "law" s_law]
def inL : List IniD := [⟨"BadLines", "BadLines.__init__", iniS 10⟩, ⟨"BadText", "BadText.__init__", iniS 24⟩, ⟨"BadTexts", "BadTexts.__init__", iniS 25⟩, ⟨"Bent", "Bent.__init__", iniS 31⟩, ⟨"Lacking", "Lacking.__init__", iniS 32⟩, ⟨"NameTwice", "NameTwice.__init__", iniS 33⟩, ⟨"NotTaken", "NotTaken.__init__", iniS 36⟩, ⟨"OtherCode", "OtherCode.__init__", iniS 39⟩, ⟨"Refused", "Refused.__init__", iniS 40⟩, ⟨"Ring", "Ring.__init__", iniS 41⟩, ⟨"TooMany", "TooMany.__init__", iniS 43⟩, ⟨"TooSmall", "TooSmall.__init__", iniS 44⟩, ⟨"Unlike", "Unlike.__init__", iniS 45⟩, ⟨"Untyped", "Untyped.__init__", iniS 46⟩]
theorem all_mk {P : Program} {w : World} {K : PySem.W.Frag} {h h2 : Heap} {mg : Str → Option Value} {fa : Addr} (X : K.In h) (G : h.Ns mainGlobals mg) (hfa : mg "law" = some (.ref fa)) (c : SaysY faL fnL [] [] (exB P) inL w h2 K) :
    ∃ fd : FuncData, (∀ (s : Shared) (v : Value), BindsTo s fd ⟨[v], []⟩ [("script", v)]) ∧ ∀ base : Heap, K.In base → base.Ns mainGlobals mg → FnG P w K mg base 4 fa fd ["script"] (spLaw K) := by
  obtain ⟨Bk, z⟩ := Bool.and_eq_true_iff.mp c.more
  obtain ⟨Bx, z⟩ := Bool.and_eq_true_iff.mp z
  obtain ⟨Bn, z⟩ := Bool.and_eq_true_iff.mp z
  obtain ⟨Bi, z⟩ := Bool.and_eq_true_iff.mp z
  obtain ⟨Bt, z⟩ := Bool.and_eq_true_iff.mp z
  obtain ⟨B1, z⟩ := Bool.and_eq_true_iff.mp z
  obtain ⟨B2, Bs⟩ := Bool.and_eq_true_iff.mp z
  replace B1 := beq_iff_eq.mp B1
  replace B2 := beq_iff_eq.mp B2
  have g_TongueError := He.glo_ok X G (c.fact 0 (f := .glo "TongueError") rfl)
  have g_Astray := He.glo_ok X G (c.fact 1 (f := .glo "Astray") rfl)
  have g_BadBlock := He.glo_ok X G (c.fact 2 (f := .glo "BadBlock") rfl)
  have g_BadBook := He.glo_ok X G (c.fact 3 (f := .glo "BadBook") rfl)
  have g_BadContext := He.glo_ok X G (c.fact 4 (f := .glo "BadContext") rfl)
  have g_BadDeclaration := He.glo_ok X G (c.fact 5 (f := .glo "BadDeclaration") rfl)
  have g_BadDeed := He.glo_ok X G (c.fact 6 (f := .glo "BadDeed") rfl)
  have g_BadErased := He.glo_ok X G (c.fact 7 (f := .glo "BadErased") rfl)
  have g_BadImage := He.glo_ok X G (c.fact 8 (f := .glo "BadImage") rfl)
  have g_BadLines := He.glo_ok X G (c.fact 9 (f := .glo "BadLines") rfl)
  have g_BadMaker := He.glo_ok X G (c.fact 10 (f := .glo "BadMaker") rfl)
  have g_BadModule := He.glo_ok X G (c.fact 11 (f := .glo "BadModule") rfl)
  have g_BadMoments := He.glo_ok X G (c.fact 12 (f := .glo "BadMoments") rfl)
  have g_BadName := He.glo_ok X G (c.fact 13 (f := .glo "BadName") rfl)
  have g_BadNumber := He.glo_ok X G (c.fact 14 (f := .glo "BadNumber") rfl)
  have g_BadObject := He.glo_ok X G (c.fact 15 (f := .glo "BadObject") rfl)
  have g_BadPlace := He.glo_ok X G (c.fact 16 (f := .glo "BadPlace") rfl)
  have g_BadRule := He.glo_ok X G (c.fact 17 (f := .glo "BadRule") rfl)
  have g_BadSeal := He.glo_ok X G (c.fact 18 (f := .glo "BadSeal") rfl)
  have g_BadSize := He.glo_ok X G (c.fact 19 (f := .glo "BadSize") rfl)
  have g_BadState := He.glo_ok X G (c.fact 20 (f := .glo "BadState") rfl)
  have g_BadSurface := He.glo_ok X G (c.fact 21 (f := .glo "BadSurface") rfl)
  have g_BadTerm := He.glo_ok X G (c.fact 22 (f := .glo "BadTerm") rfl)
  have g_BadText := He.glo_ok X G (c.fact 23 (f := .glo "BadText") rfl)
  have g_BadTexts := He.glo_ok X G (c.fact 24 (f := .glo "BadTexts") rfl)
  have g_BadTree := He.glo_ok X G (c.fact 25 (f := .glo "BadTree") rfl)
  have g_BadType := He.glo_ok X G (c.fact 26 (f := .glo "BadType") rfl)
  have g_BadUses := He.glo_ok X G (c.fact 27 (f := .glo "BadUses") rfl)
  have g_BadWord := He.glo_ok X G (c.fact 28 (f := .glo "BadWord") rfl)
  have g_BadWorld := He.glo_ok X G (c.fact 29 (f := .glo "BadWorld") rfl)
  have g_Bent := He.glo_ok X G (c.fact 30 (f := .glo "Bent") rfl)
  have g_Lacking := He.glo_ok X G (c.fact 31 (f := .glo "Lacking") rfl)
  have g_NameTwice := He.glo_ok X G (c.fact 32 (f := .glo "NameTwice") rfl)
  have g_NotEnded := He.glo_ok X G (c.fact 33 (f := .glo "NotEnded") rfl)
  have g_NotShown := He.glo_ok X G (c.fact 34 (f := .glo "NotShown") rfl)
  have g_NotTaken := He.glo_ok X G (c.fact 35 (f := .glo "NotTaken") rfl)
  have g_NothingDone := He.glo_ok X G (c.fact 36 (f := .glo "NothingDone") rfl)
  have g_NothingUndone := He.glo_ok X G (c.fact 37 (f := .glo "NothingUndone") rfl)
  have g_OtherCode := He.glo_ok X G (c.fact 38 (f := .glo "OtherCode") rfl)
  have g_Refused := He.glo_ok X G (c.fact 39 (f := .glo "Refused") rfl)
  have g_Ring := He.glo_ok X G (c.fact 40 (f := .glo "Ring") rfl)
  have g_Sealed := He.glo_ok X G (c.fact 41 (f := .glo "Sealed") rfl)
  have g_TooMany := He.glo_ok X G (c.fact 42 (f := .glo "TooMany") rfl)
  have g_TooSmall := He.glo_ok X G (c.fact 43 (f := .glo "TooSmall") rfl)
  have g_Unlike := He.glo_ok X G (c.fact 44 (f := .glo "Unlike") rfl)
  have g_Untyped := He.glo_ok X G (c.fact 45 (f := .glo "Untyped") rfl)
  have g_Used := He.glo_ok X G (c.fact 46 (f := .glo "Used") rfl)
  have m__law_begun := He.glo_ok X G (c.fact 47 (f := .glo "_law_begun") rfl)
  have m__law_blended := He.glo_ok X G (c.fact 48 (f := .glo "_law_blended") rfl)
  have m__law_draw := He.glo_ok X G (c.fact 49 (f := .glo "_law_draw") rfl)
  have m__law_pick := He.glo_ok X G (c.fact 50 (f := .glo "_law_pick") rfl)
  have m__law_k00_flags := He.glo_ok X G (c.fact 51 (f := .glo "_law_k00_flags") rfl)
  have m_law := He.glo_ok X G (c.fact 52 (f := .glo "law") rfl)
  have n_abs := He.free_ok X G (c.fact 53 (f := .free "abs") rfl)
  have n_int := He.free_ok X G (c.fact 54 (f := .free "int") rfl)
  have n_len := He.free_ok X G (c.fact 55 (f := .free "len") rfl)
  have n_min := He.free_ok X G (c.fact 56 (f := .free "min") rfl)
  have n_range := He.free_ok X G (c.fact 57 (f := .free "range") rfl)
  have n_repr := He.free_ok X G (c.fact 58 (f := .free "repr") rfl)
  have n_enumerate := He.free_ok X G (c.fact 59 (f := .free "enumerate") rfl)
  have n_isinstance := He.free_ok X G (c.fact 60 (f := .free "isinstance") rfl)
  have n_ValueError := He.free_ok X G (c.fact 61 (f := .free "ValueError") rfl)
  have n_super := He.free_ok X G (c.fact 62 (f := .free "super") rfl)
  obtain ⟨fd__law_begun, Q__law_begun⟩ := c.t.d.def_ 0 (d := dfd "_law_begun" s_law_begun) rfl
  have F__law_begun : Fun K "_law_begun" "_law_begun" s_law_begun (He.ga K "_law_begun") fd__law_begun := fun_of Q__law_begun
  have k__law_begun := F__law_begun.kp
  have b__law_begun := F__law_begun.binds (ps := ["script"]) fun _ _ _ _ _ _ us hl => match us, hl with | [_], _ => rfl
  obtain ⟨fd__law_blended, Q__law_blended⟩ := c.t.d.def_ 1 (d := dfd "_law_blended" s_law_blended) rfl
  have F__law_blended : Fun K "_law_blended" "_law_blended" s_law_blended (He.ga K "_law_blended") fd__law_blended := fun_of Q__law_blended
  have k__law_blended := F__law_blended.kp
  have b__law_blended := F__law_blended.binds (ps := ["state"]) fun _ _ _ _ _ _ us hl => match us, hl with | [_], _ => rfl
  obtain ⟨fd__law_draw, Q__law_draw⟩ := c.t.d.def_ 2 (d := dfd "_law_draw" s_law_draw) rfl
  have F__law_draw : Fun K "_law_draw" "_law_draw" s_law_draw (He.ga K "_law_draw") fd__law_draw := fun_of Q__law_draw
  have k__law_draw := F__law_draw.kp
  have b__law_draw := F__law_draw.binds (ps := ["state", "size_here"]) fun _ _ _ _ _ _ us hl => match us, hl with | [_, _], _ => rfl
  obtain ⟨fd__law_pick, Q__law_pick⟩ := c.t.d.def_ 3 (d := dfd "_law_pick" s_law_pick) rfl
  have F__law_pick : Fun K "_law_pick" "_law_pick" s_law_pick (He.ga K "_law_pick") fd__law_pick := fun_of Q__law_pick
  have k__law_pick := F__law_pick.kp
  have b__law_pick := F__law_pick.binds (ps := ["state", "several"]) fun _ _ _ _ _ _ us hl => match us, hl with | [_, _], _ => rfl
  obtain ⟨fd__law_k00_flags, Q__law_k00_flags⟩ := c.t.d.def_ 4 (d := dfd "_law_k00_flags" s_law_k00_flags) rfl
  have F__law_k00_flags : Fun K "_law_k00_flags" "_law_k00_flags" s_law_k00_flags (He.ga K "_law_k00_flags") fd__law_k00_flags := fun_of Q__law_k00_flags
  have k__law_k00_flags := F__law_k00_flags.kp
  have b__law_k00_flags := F__law_k00_flags.binds (ps := ["error"]) fun _ _ _ _ _ _ us hl => match us, hl with | [_], _ => rfl
  obtain ⟨fd_law, Q_law⟩ := c.t.d.def_ 5 (d := dfd "law" s_law) rfl
  have F_law : Fun K "law" "law" s_law (He.ga K "law") fd_law := fun_of Q_law
  have k_law := F_law.kp
  have b_law := F_law.binds (ps := ["script"]) fun _ _ _ _ _ _ us hl => match us, hl with | [_], _ => rfl
  have e := hfa.symm.trans m_law
  cases e
  have bA := FunD.bindsA (ps := ["script"]) Q_law fun _ _ _ _ _ _ us hl => match us, hl with | [_], _ => rfl
  refine ⟨fd_law, fun s v => bA s [v] rfl, fun base _ _ => ?_⟩
  have I_BadLines := c.init 0 (d := ⟨"BadLines", "BadLines.__init__", iniS 10⟩) rfl
  obtain ⟨S_BadLines, O_BadLines⟩ := sups_of Bs "BadLines" ["index"] (by simp only [fldN, List.mem_cons, true_or, or_true])
  obtain ⟨_, _, _, _, _, _, _, _, l_BadLines⟩ := I_BadLines.ex
  have J_BadLines : IniAt P K mg (He.ga K "BadLines") (iniA K "BadLines") (iniC K "BadLines") (iniO K "BadLines") "BadLines.__init__" (iniS 10) _ := ⟨⟨_, _, _, _, _, _, _, _, rfl, l_BadLines⟩, I_BadLines.cd, sup_of S_BadLines n_super (oex_of O_BadLines)⟩
  have no_BadLines_index : PySem.W.findIn K (.ref (He.ga K "BadLines")) "index" = some none := no_of Bn (C := He.ga K "BadLines") (fs := ["index"]) (List.mem_map.mpr ⟨("BadLines", ["index"]), by simp only [fldN, List.mem_cons, true_or, or_true], rfl⟩) (by simp)
  have Mv_BadLines := mkx_BadLines (P := P) (w := w) (mg := mg) (base := base) J_BadLines no_BadLines_index I_BadLines.fi I_BadLines.ty g_BadLines
  have I_BadText := c.init 1 (d := ⟨"BadText", "BadText.__init__", iniS 24⟩) rfl
  obtain ⟨S_BadText, O_BadText⟩ := sups_of Bs "BadText" ["at"] (by simp only [fldN, List.mem_cons, true_or, or_true])
  obtain ⟨_, _, _, _, _, _, _, _, l_BadText⟩ := I_BadText.ex
  have J_BadText : IniAt P K mg (He.ga K "BadText") (iniA K "BadText") (iniC K "BadText") (iniO K "BadText") "BadText.__init__" (iniS 24) _ := ⟨⟨_, _, _, _, _, _, _, _, rfl, l_BadText⟩, I_BadText.cd, sup_of S_BadText n_super (oex_of O_BadText)⟩
  have no_BadText_at : PySem.W.findIn K (.ref (He.ga K "BadText")) "at" = some none := no_of Bn (C := He.ga K "BadText") (fs := ["at"]) (List.mem_map.mpr ⟨("BadText", ["at"]), by simp only [fldN, List.mem_cons, true_or, or_true], rfl⟩) (by simp)
  have Mv_BadText := mkx_BadText (P := P) (w := w) (mg := mg) (base := base) J_BadText no_BadText_at I_BadText.fi I_BadText.ty g_BadText
  have I_BadTexts := c.init 2 (d := ⟨"BadTexts", "BadTexts.__init__", iniS 25⟩) rfl
  obtain ⟨S_BadTexts, O_BadTexts⟩ := sups_of Bs "BadTexts" ["index"] (by simp only [fldN, List.mem_cons, true_or, or_true])
  obtain ⟨_, _, _, _, _, _, _, _, l_BadTexts⟩ := I_BadTexts.ex
  have J_BadTexts : IniAt P K mg (He.ga K "BadTexts") (iniA K "BadTexts") (iniC K "BadTexts") (iniO K "BadTexts") "BadTexts.__init__" (iniS 25) _ := ⟨⟨_, _, _, _, _, _, _, _, rfl, l_BadTexts⟩, I_BadTexts.cd, sup_of S_BadTexts n_super (oex_of O_BadTexts)⟩
  have no_BadTexts_index : PySem.W.findIn K (.ref (He.ga K "BadTexts")) "index" = some none := no_of Bn (C := He.ga K "BadTexts") (fs := ["index"]) (List.mem_map.mpr ⟨("BadTexts", ["index"]), by simp only [fldN, List.mem_cons, true_or, or_true], rfl⟩) (by simp)
  have Mv_BadTexts := mkx_BadTexts (P := P) (w := w) (mg := mg) (base := base) J_BadTexts no_BadTexts_index I_BadTexts.fi I_BadTexts.ty g_BadTexts
  have I_Bent := c.init 3 (d := ⟨"Bent", "Bent.__init__", iniS 31⟩) rfl
  obtain ⟨S_Bent, O_Bent⟩ := sups_of Bs "Bent" ["line"] (by simp only [fldN, List.mem_cons, true_or, or_true])
  obtain ⟨_, _, _, _, _, _, _, _, l_Bent⟩ := I_Bent.ex
  have J_Bent : IniAt P K mg (He.ga K "Bent") (iniA K "Bent") (iniC K "Bent") (iniO K "Bent") "Bent.__init__" (iniS 31) _ := ⟨⟨_, _, _, _, _, _, _, _, rfl, l_Bent⟩, I_Bent.cd, sup_of S_Bent n_super (oex_of O_Bent)⟩
  have no_Bent_line : PySem.W.findIn K (.ref (He.ga K "Bent")) "line" = some none := no_of Bn (C := He.ga K "Bent") (fs := ["line"]) (List.mem_map.mpr ⟨("Bent", ["line"]), by simp only [fldN, List.mem_cons, true_or, or_true], rfl⟩) (by simp)
  have Mv_Bent := mkx_Bent (P := P) (w := w) (mg := mg) (base := base) J_Bent no_Bent_line I_Bent.fi I_Bent.ty g_Bent
  have I_Lacking := c.init 4 (d := ⟨"Lacking", "Lacking.__init__", iniS 32⟩) rfl
  obtain ⟨S_Lacking, O_Lacking⟩ := sups_of Bs "Lacking" ["name"] (by simp only [fldN, List.mem_cons, true_or, or_true])
  obtain ⟨_, _, _, _, _, _, _, _, l_Lacking⟩ := I_Lacking.ex
  have J_Lacking : IniAt P K mg (He.ga K "Lacking") (iniA K "Lacking") (iniC K "Lacking") (iniO K "Lacking") "Lacking.__init__" (iniS 32) _ := ⟨⟨_, _, _, _, _, _, _, _, rfl, l_Lacking⟩, I_Lacking.cd, sup_of S_Lacking n_super (oex_of O_Lacking)⟩
  have no_Lacking_name : PySem.W.findIn K (.ref (He.ga K "Lacking")) "name" = some none := no_of Bn (C := He.ga K "Lacking") (fs := ["name"]) (List.mem_map.mpr ⟨("Lacking", ["name"]), by simp only [fldN, List.mem_cons, true_or, or_true], rfl⟩) (by simp)
  have Mv_Lacking := mkx_Lacking (P := P) (w := w) (mg := mg) (base := base) J_Lacking no_Lacking_name I_Lacking.fi I_Lacking.ty g_Lacking
  have I_NameTwice := c.init 5 (d := ⟨"NameTwice", "NameTwice.__init__", iniS 33⟩) rfl
  obtain ⟨S_NameTwice, O_NameTwice⟩ := sups_of Bs "NameTwice" ["name"] (by simp only [fldN, List.mem_cons, true_or, or_true])
  obtain ⟨_, _, _, _, _, _, _, _, l_NameTwice⟩ := I_NameTwice.ex
  have J_NameTwice : IniAt P K mg (He.ga K "NameTwice") (iniA K "NameTwice") (iniC K "NameTwice") (iniO K "NameTwice") "NameTwice.__init__" (iniS 33) _ := ⟨⟨_, _, _, _, _, _, _, _, rfl, l_NameTwice⟩, I_NameTwice.cd, sup_of S_NameTwice n_super (oex_of O_NameTwice)⟩
  have no_NameTwice_name : PySem.W.findIn K (.ref (He.ga K "NameTwice")) "name" = some none := no_of Bn (C := He.ga K "NameTwice") (fs := ["name"]) (List.mem_map.mpr ⟨("NameTwice", ["name"]), by simp only [fldN, List.mem_cons, true_or, or_true], rfl⟩) (by simp)
  have Mv_NameTwice := mkx_NameTwice (P := P) (w := w) (mg := mg) (base := base) J_NameTwice no_NameTwice_name I_NameTwice.fi I_NameTwice.ty g_NameTwice
  have I_NotTaken := c.init 6 (d := ⟨"NotTaken", "NotTaken.__init__", iniS 36⟩) rfl
  obtain ⟨S_NotTaken, O_NotTaken⟩ := sups_of Bs "NotTaken" ["name"] (by simp only [fldN, List.mem_cons, true_or, or_true])
  obtain ⟨_, _, _, _, _, _, _, _, l_NotTaken⟩ := I_NotTaken.ex
  have J_NotTaken : IniAt P K mg (He.ga K "NotTaken") (iniA K "NotTaken") (iniC K "NotTaken") (iniO K "NotTaken") "NotTaken.__init__" (iniS 36) _ := ⟨⟨_, _, _, _, _, _, _, _, rfl, l_NotTaken⟩, I_NotTaken.cd, sup_of S_NotTaken n_super (oex_of O_NotTaken)⟩
  have no_NotTaken_name : PySem.W.findIn K (.ref (He.ga K "NotTaken")) "name" = some none := no_of Bn (C := He.ga K "NotTaken") (fs := ["name"]) (List.mem_map.mpr ⟨("NotTaken", ["name"]), by simp only [fldN, List.mem_cons, true_or, or_true], rfl⟩) (by simp)
  have Mv_NotTaken := mkx_NotTaken (P := P) (w := w) (mg := mg) (base := base) J_NotTaken no_NotTaken_name I_NotTaken.fi I_NotTaken.ty g_NotTaken
  have I_OtherCode := c.init 7 (d := ⟨"OtherCode", "OtherCode.__init__", iniS 39⟩) rfl
  obtain ⟨S_OtherCode, O_OtherCode⟩ := sups_of Bs "OtherCode" ["own"] (by simp only [fldN, List.mem_cons, true_or, or_true])
  obtain ⟨_, _, _, _, _, _, _, _, l_OtherCode⟩ := I_OtherCode.ex
  have J_OtherCode : IniAt P K mg (He.ga K "OtherCode") (iniA K "OtherCode") (iniC K "OtherCode") (iniO K "OtherCode") "OtherCode.__init__" (iniS 39) _ := ⟨⟨_, _, _, _, _, _, _, _, rfl, l_OtherCode⟩, I_OtherCode.cd, sup_of S_OtherCode n_super (oex_of O_OtherCode)⟩
  have no_OtherCode_own : PySem.W.findIn K (.ref (He.ga K "OtherCode")) "own" = some none := no_of Bn (C := He.ga K "OtherCode") (fs := ["own"]) (List.mem_map.mpr ⟨("OtherCode", ["own"]), by simp only [fldN, List.mem_cons, true_or, or_true], rfl⟩) (by simp)
  have Mv_OtherCode := mkx_OtherCode (P := P) (w := w) (mg := mg) (base := base) J_OtherCode no_OtherCode_own I_OtherCode.fi I_OtherCode.ty g_OtherCode
  have I_Refused := c.init 8 (d := ⟨"Refused", "Refused.__init__", iniS 40⟩) rfl
  obtain ⟨S_Refused, O_Refused⟩ := sups_of Bs "Refused" ["name", "word"] (by simp only [fldN, List.mem_cons, true_or, or_true])
  obtain ⟨_, _, _, _, _, _, _, _, l_Refused⟩ := I_Refused.ex
  have J_Refused : IniAt P K mg (He.ga K "Refused") (iniA K "Refused") (iniC K "Refused") (iniO K "Refused") "Refused.__init__" (iniS 40) _ := ⟨⟨_, _, _, _, _, _, _, _, rfl, l_Refused⟩, I_Refused.cd, sup_of S_Refused n_super (oex_of O_Refused)⟩
  have no_Refused_name : PySem.W.findIn K (.ref (He.ga K "Refused")) "name" = some none := no_of Bn (C := He.ga K "Refused") (fs := ["name", "word"]) (List.mem_map.mpr ⟨("Refused", ["name", "word"]), by simp only [fldN, List.mem_cons, true_or, or_true], rfl⟩) (by simp)
  have no_Refused_word : PySem.W.findIn K (.ref (He.ga K "Refused")) "word" = some none := no_of Bn (C := He.ga K "Refused") (fs := ["name", "word"]) (List.mem_map.mpr ⟨("Refused", ["name", "word"]), by simp only [fldN, List.mem_cons, true_or, or_true], rfl⟩) (by simp)
  have Mv_Refused := mkx_Refused (P := P) (w := w) (mg := mg) (base := base) J_Refused no_Refused_name no_Refused_word I_Refused.fi I_Refused.ty g_Refused
  have I_Ring := c.init 9 (d := ⟨"Ring", "Ring.__init__", iniS 41⟩) rfl
  obtain ⟨S_Ring, O_Ring⟩ := sups_of Bs "Ring" ["module"] (by simp only [fldN, List.mem_cons, true_or, or_true])
  obtain ⟨_, _, _, _, _, _, _, _, l_Ring⟩ := I_Ring.ex
  have J_Ring : IniAt P K mg (He.ga K "Ring") (iniA K "Ring") (iniC K "Ring") (iniO K "Ring") "Ring.__init__" (iniS 41) _ := ⟨⟨_, _, _, _, _, _, _, _, rfl, l_Ring⟩, I_Ring.cd, sup_of S_Ring n_super (oex_of O_Ring)⟩
  have no_Ring_module : PySem.W.findIn K (.ref (He.ga K "Ring")) "module" = some none := no_of Bn (C := He.ga K "Ring") (fs := ["module"]) (List.mem_map.mpr ⟨("Ring", ["module"]), by simp only [fldN, List.mem_cons, true_or, or_true], rfl⟩) (by simp)
  have Mv_Ring := mkx_Ring (P := P) (w := w) (mg := mg) (base := base) J_Ring no_Ring_module I_Ring.fi I_Ring.ty g_Ring
  have I_TooMany := c.init 10 (d := ⟨"TooMany", "TooMany.__init__", iniS 43⟩) rfl
  obtain ⟨S_TooMany, O_TooMany⟩ := sups_of Bs "TooMany" ["most"] (by simp only [fldN, List.mem_cons, true_or, or_true])
  obtain ⟨_, _, _, _, _, _, _, _, l_TooMany⟩ := I_TooMany.ex
  have J_TooMany : IniAt P K mg (He.ga K "TooMany") (iniA K "TooMany") (iniC K "TooMany") (iniO K "TooMany") "TooMany.__init__" (iniS 43) _ := ⟨⟨_, _, _, _, _, _, _, _, rfl, l_TooMany⟩, I_TooMany.cd, sup_of S_TooMany n_super (oex_of O_TooMany)⟩
  have no_TooMany_most : PySem.W.findIn K (.ref (He.ga K "TooMany")) "most" = some none := no_of Bn (C := He.ga K "TooMany") (fs := ["most"]) (List.mem_map.mpr ⟨("TooMany", ["most"]), by simp only [fldN, List.mem_cons, true_or, or_true], rfl⟩) (by simp)
  have Mv_TooMany := mkx_TooMany (P := P) (w := w) (mg := mg) (base := base) J_TooMany no_TooMany_most I_TooMany.fi I_TooMany.ty g_TooMany
  have I_TooSmall := c.init 11 (d := ⟨"TooSmall", "TooSmall.__init__", iniS 44⟩) rfl
  obtain ⟨S_TooSmall, O_TooSmall⟩ := sups_of Bs "TooSmall" ["least"] (by simp only [fldN, List.mem_cons, true_or, or_true])
  obtain ⟨_, _, _, _, _, _, _, _, l_TooSmall⟩ := I_TooSmall.ex
  have J_TooSmall : IniAt P K mg (He.ga K "TooSmall") (iniA K "TooSmall") (iniC K "TooSmall") (iniO K "TooSmall") "TooSmall.__init__" (iniS 44) _ := ⟨⟨_, _, _, _, _, _, _, _, rfl, l_TooSmall⟩, I_TooSmall.cd, sup_of S_TooSmall n_super (oex_of O_TooSmall)⟩
  have no_TooSmall_least : PySem.W.findIn K (.ref (He.ga K "TooSmall")) "least" = some none := no_of Bn (C := He.ga K "TooSmall") (fs := ["least"]) (List.mem_map.mpr ⟨("TooSmall", ["least"]), by simp only [fldN, List.mem_cons, true_or, or_true], rfl⟩) (by simp)
  have Mv_TooSmall := mkx_TooSmall (P := P) (w := w) (mg := mg) (base := base) J_TooSmall no_TooSmall_least I_TooSmall.fi I_TooSmall.ty g_TooSmall
  have I_Unlike := c.init 12 (d := ⟨"Unlike", "Unlike.__init__", iniS 45⟩) rfl
  obtain ⟨S_Unlike, O_Unlike⟩ := sups_of Bs "Unlike" ["name"] (by simp only [fldN, List.mem_cons, true_or, or_true])
  obtain ⟨_, _, _, _, _, _, _, _, l_Unlike⟩ := I_Unlike.ex
  have J_Unlike : IniAt P K mg (He.ga K "Unlike") (iniA K "Unlike") (iniC K "Unlike") (iniO K "Unlike") "Unlike.__init__" (iniS 45) _ := ⟨⟨_, _, _, _, _, _, _, _, rfl, l_Unlike⟩, I_Unlike.cd, sup_of S_Unlike n_super (oex_of O_Unlike)⟩
  have no_Unlike_name : PySem.W.findIn K (.ref (He.ga K "Unlike")) "name" = some none := no_of Bn (C := He.ga K "Unlike") (fs := ["name"]) (List.mem_map.mpr ⟨("Unlike", ["name"]), by simp only [fldN, List.mem_cons, true_or, or_true], rfl⟩) (by simp)
  have Mv_Unlike := mkx_Unlike (P := P) (w := w) (mg := mg) (base := base) J_Unlike no_Unlike_name I_Unlike.fi I_Unlike.ty g_Unlike
  have I_Untyped := c.init 13 (d := ⟨"Untyped", "Untyped.__init__", iniS 46⟩) rfl
  obtain ⟨S_Untyped, O_Untyped⟩ := sups_of Bs "Untyped" ["word"] (by simp only [fldN, List.mem_cons, true_or, or_true])
  obtain ⟨_, _, _, _, _, _, _, _, l_Untyped⟩ := I_Untyped.ex
  have J_Untyped : IniAt P K mg (He.ga K "Untyped") (iniA K "Untyped") (iniC K "Untyped") (iniO K "Untyped") "Untyped.__init__" (iniS 46) _ := ⟨⟨_, _, _, _, _, _, _, _, rfl, l_Untyped⟩, I_Untyped.cd, sup_of S_Untyped n_super (oex_of O_Untyped)⟩
  have no_Untyped_word : PySem.W.findIn K (.ref (He.ga K "Untyped")) "word" = some none := no_of Bn (C := He.ga K "Untyped") (fs := ["word"]) (List.mem_map.mpr ⟨("Untyped", ["word"]), by simp only [fldN, List.mem_cons, true_or, or_true], rfl⟩) (by simp)
  have Mv_Untyped := mkx_Untyped (P := P) (w := w) (mg := mg) (base := base) J_Untyped no_Untyped_word I_Untyped.fi I_Untyped.ty g_Untyped
  have k_TongueError : ExK K (He.ga K "TongueError") := exks_of Bk (List.mem_map.mpr ⟨"TongueError", by simp only [allN, List.cons_append, List.nil_append, List.mem_cons, true_or, or_true], rfl⟩)
  have k_Astray : ExK K (He.ga K "Astray") := exks_of Bk (List.mem_map.mpr ⟨"Astray", by simp only [allN, List.cons_append, List.nil_append, List.mem_cons, true_or, or_true], rfl⟩)
  have k_BadBlock : ExK K (He.ga K "BadBlock") := exks_of Bk (List.mem_map.mpr ⟨"BadBlock", by simp only [allN, List.cons_append, List.nil_append, List.mem_cons, true_or, or_true], rfl⟩)
  have k_BadBook : ExK K (He.ga K "BadBook") := exks_of Bk (List.mem_map.mpr ⟨"BadBook", by simp only [allN, List.cons_append, List.nil_append, List.mem_cons, true_or, or_true], rfl⟩)
  have k_BadContext : ExK K (He.ga K "BadContext") := exks_of Bk (List.mem_map.mpr ⟨"BadContext", by simp only [allN, List.cons_append, List.nil_append, List.mem_cons, true_or, or_true], rfl⟩)
  have k_BadDeclaration : ExK K (He.ga K "BadDeclaration") := exks_of Bk (List.mem_map.mpr ⟨"BadDeclaration", by simp only [allN, List.cons_append, List.nil_append, List.mem_cons, true_or, or_true], rfl⟩)
  have k_BadDeed : ExK K (He.ga K "BadDeed") := exks_of Bk (List.mem_map.mpr ⟨"BadDeed", by simp only [allN, List.cons_append, List.nil_append, List.mem_cons, true_or, or_true], rfl⟩)
  have k_BadErased : ExK K (He.ga K "BadErased") := exks_of Bk (List.mem_map.mpr ⟨"BadErased", by simp only [allN, List.cons_append, List.nil_append, List.mem_cons, true_or, or_true], rfl⟩)
  have k_BadImage : ExK K (He.ga K "BadImage") := exks_of Bk (List.mem_map.mpr ⟨"BadImage", by simp only [allN, List.cons_append, List.nil_append, List.mem_cons, true_or, or_true], rfl⟩)
  have k_BadLines : ExK K (He.ga K "BadLines") := exks_of Bk (List.mem_map.mpr ⟨"BadLines", by simp only [allN, List.cons_append, List.nil_append, List.mem_cons, true_or, or_true], rfl⟩)
  have k_BadMaker : ExK K (He.ga K "BadMaker") := exks_of Bk (List.mem_map.mpr ⟨"BadMaker", by simp only [allN, List.cons_append, List.nil_append, List.mem_cons, true_or, or_true], rfl⟩)
  have k_BadModule : ExK K (He.ga K "BadModule") := exks_of Bk (List.mem_map.mpr ⟨"BadModule", by simp only [allN, List.cons_append, List.nil_append, List.mem_cons, true_or, or_true], rfl⟩)
  have k_BadMoments : ExK K (He.ga K "BadMoments") := exks_of Bk (List.mem_map.mpr ⟨"BadMoments", by simp only [allN, List.cons_append, List.nil_append, List.mem_cons, true_or, or_true], rfl⟩)
  have k_BadName : ExK K (He.ga K "BadName") := exks_of Bk (List.mem_map.mpr ⟨"BadName", by simp only [allN, List.cons_append, List.nil_append, List.mem_cons, true_or, or_true], rfl⟩)
  have k_BadNumber : ExK K (He.ga K "BadNumber") := exks_of Bk (List.mem_map.mpr ⟨"BadNumber", by simp only [allN, List.cons_append, List.nil_append, List.mem_cons, true_or, or_true], rfl⟩)
  have k_BadObject : ExK K (He.ga K "BadObject") := exks_of Bk (List.mem_map.mpr ⟨"BadObject", by simp only [allN, List.cons_append, List.nil_append, List.mem_cons, true_or, or_true], rfl⟩)
  have k_BadPlace : ExK K (He.ga K "BadPlace") := exks_of Bk (List.mem_map.mpr ⟨"BadPlace", by simp only [allN, List.cons_append, List.nil_append, List.mem_cons, true_or, or_true], rfl⟩)
  have k_BadRule : ExK K (He.ga K "BadRule") := exks_of Bk (List.mem_map.mpr ⟨"BadRule", by simp only [allN, List.cons_append, List.nil_append, List.mem_cons, true_or, or_true], rfl⟩)
  have k_BadSeal : ExK K (He.ga K "BadSeal") := exks_of Bk (List.mem_map.mpr ⟨"BadSeal", by simp only [allN, List.cons_append, List.nil_append, List.mem_cons, true_or, or_true], rfl⟩)
  have k_BadSize : ExK K (He.ga K "BadSize") := exks_of Bk (List.mem_map.mpr ⟨"BadSize", by simp only [allN, List.cons_append, List.nil_append, List.mem_cons, true_or, or_true], rfl⟩)
  have k_BadState : ExK K (He.ga K "BadState") := exks_of Bk (List.mem_map.mpr ⟨"BadState", by simp only [allN, List.cons_append, List.nil_append, List.mem_cons, true_or, or_true], rfl⟩)
  have k_BadSurface : ExK K (He.ga K "BadSurface") := exks_of Bk (List.mem_map.mpr ⟨"BadSurface", by simp only [allN, List.cons_append, List.nil_append, List.mem_cons, true_or, or_true], rfl⟩)
  have k_BadTerm : ExK K (He.ga K "BadTerm") := exks_of Bk (List.mem_map.mpr ⟨"BadTerm", by simp only [allN, List.cons_append, List.nil_append, List.mem_cons, true_or, or_true], rfl⟩)
  have k_BadText : ExK K (He.ga K "BadText") := exks_of Bk (List.mem_map.mpr ⟨"BadText", by simp only [allN, List.cons_append, List.nil_append, List.mem_cons, true_or, or_true], rfl⟩)
  have k_BadTexts : ExK K (He.ga K "BadTexts") := exks_of Bk (List.mem_map.mpr ⟨"BadTexts", by simp only [allN, List.cons_append, List.nil_append, List.mem_cons, true_or, or_true], rfl⟩)
  have k_BadTree : ExK K (He.ga K "BadTree") := exks_of Bk (List.mem_map.mpr ⟨"BadTree", by simp only [allN, List.cons_append, List.nil_append, List.mem_cons, true_or, or_true], rfl⟩)
  have k_BadType : ExK K (He.ga K "BadType") := exks_of Bk (List.mem_map.mpr ⟨"BadType", by simp only [allN, List.cons_append, List.nil_append, List.mem_cons, true_or, or_true], rfl⟩)
  have k_BadUses : ExK K (He.ga K "BadUses") := exks_of Bk (List.mem_map.mpr ⟨"BadUses", by simp only [allN, List.cons_append, List.nil_append, List.mem_cons, true_or, or_true], rfl⟩)
  have k_BadWord : ExK K (He.ga K "BadWord") := exks_of Bk (List.mem_map.mpr ⟨"BadWord", by simp only [allN, List.cons_append, List.nil_append, List.mem_cons, true_or, or_true], rfl⟩)
  have k_BadWorld : ExK K (He.ga K "BadWorld") := exks_of Bk (List.mem_map.mpr ⟨"BadWorld", by simp only [allN, List.cons_append, List.nil_append, List.mem_cons, true_or, or_true], rfl⟩)
  have k_Bent : ExK K (He.ga K "Bent") := exks_of Bk (List.mem_map.mpr ⟨"Bent", by simp only [allN, List.cons_append, List.nil_append, List.mem_cons, true_or, or_true], rfl⟩)
  have k_Lacking : ExK K (He.ga K "Lacking") := exks_of Bk (List.mem_map.mpr ⟨"Lacking", by simp only [allN, List.cons_append, List.nil_append, List.mem_cons, true_or, or_true], rfl⟩)
  have k_NameTwice : ExK K (He.ga K "NameTwice") := exks_of Bk (List.mem_map.mpr ⟨"NameTwice", by simp only [allN, List.cons_append, List.nil_append, List.mem_cons, true_or, or_true], rfl⟩)
  have k_NotEnded : ExK K (He.ga K "NotEnded") := exks_of Bk (List.mem_map.mpr ⟨"NotEnded", by simp only [allN, List.cons_append, List.nil_append, List.mem_cons, true_or, or_true], rfl⟩)
  have k_NotShown : ExK K (He.ga K "NotShown") := exks_of Bk (List.mem_map.mpr ⟨"NotShown", by simp only [allN, List.cons_append, List.nil_append, List.mem_cons, true_or, or_true], rfl⟩)
  have k_NotTaken : ExK K (He.ga K "NotTaken") := exks_of Bk (List.mem_map.mpr ⟨"NotTaken", by simp only [allN, List.cons_append, List.nil_append, List.mem_cons, true_or, or_true], rfl⟩)
  have k_NothingDone : ExK K (He.ga K "NothingDone") := exks_of Bk (List.mem_map.mpr ⟨"NothingDone", by simp only [allN, List.cons_append, List.nil_append, List.mem_cons, true_or, or_true], rfl⟩)
  have k_NothingUndone : ExK K (He.ga K "NothingUndone") := exks_of Bk (List.mem_map.mpr ⟨"NothingUndone", by simp only [allN, List.cons_append, List.nil_append, List.mem_cons, true_or, or_true], rfl⟩)
  have k_OtherCode : ExK K (He.ga K "OtherCode") := exks_of Bk (List.mem_map.mpr ⟨"OtherCode", by simp only [allN, List.cons_append, List.nil_append, List.mem_cons, true_or, or_true], rfl⟩)
  have k_Refused : ExK K (He.ga K "Refused") := exks_of Bk (List.mem_map.mpr ⟨"Refused", by simp only [allN, List.cons_append, List.nil_append, List.mem_cons, true_or, or_true], rfl⟩)
  have k_Ring : ExK K (He.ga K "Ring") := exks_of Bk (List.mem_map.mpr ⟨"Ring", by simp only [allN, List.cons_append, List.nil_append, List.mem_cons, true_or, or_true], rfl⟩)
  have k_Sealed : ExK K (He.ga K "Sealed") := exks_of Bk (List.mem_map.mpr ⟨"Sealed", by simp only [allN, List.cons_append, List.nil_append, List.mem_cons, true_or, or_true], rfl⟩)
  have k_TooMany : ExK K (He.ga K "TooMany") := exks_of Bk (List.mem_map.mpr ⟨"TooMany", by simp only [allN, List.cons_append, List.nil_append, List.mem_cons, true_or, or_true], rfl⟩)
  have k_TooSmall : ExK K (He.ga K "TooSmall") := exks_of Bk (List.mem_map.mpr ⟨"TooSmall", by simp only [allN, List.cons_append, List.nil_append, List.mem_cons, true_or, or_true], rfl⟩)
  have k_Unlike : ExK K (He.ga K "Unlike") := exks_of Bk (List.mem_map.mpr ⟨"Unlike", by simp only [allN, List.cons_append, List.nil_append, List.mem_cons, true_or, or_true], rfl⟩)
  have k_Untyped : ExK K (He.ga K "Untyped") := exks_of Bk (List.mem_map.mpr ⟨"Untyped", by simp only [allN, List.cons_append, List.nil_append, List.mem_cons, true_or, or_true], rfl⟩)
  have k_Used : ExK K (He.ga K "Used") := exks_of Bk (List.mem_map.mpr ⟨"Used", by simp only [allN, List.cons_append, List.nil_append, List.mem_cons, true_or, or_true], rfl⟩)
  obtain ⟨x_TongueError, q_TongueError⟩ := bares_of Bx (C := He.ga K "TongueError") (List.mem_map.mpr ⟨"TongueError", by simp only [bareN, List.cons_append, List.nil_append, List.mem_cons, true_or, or_true], rfl⟩)
  obtain ⟨x_Astray, q_Astray⟩ := bares_of Bx (C := He.ga K "Astray") (List.mem_map.mpr ⟨"Astray", by simp only [bareN, List.cons_append, List.nil_append, List.mem_cons, true_or, or_true], rfl⟩)
  obtain ⟨x_BadBlock, q_BadBlock⟩ := bares_of Bx (C := He.ga K "BadBlock") (List.mem_map.mpr ⟨"BadBlock", by simp only [bareN, List.cons_append, List.nil_append, List.mem_cons, true_or, or_true], rfl⟩)
  obtain ⟨x_BadBook, q_BadBook⟩ := bares_of Bx (C := He.ga K "BadBook") (List.mem_map.mpr ⟨"BadBook", by simp only [bareN, List.cons_append, List.nil_append, List.mem_cons, true_or, or_true], rfl⟩)
  obtain ⟨x_BadContext, q_BadContext⟩ := bares_of Bx (C := He.ga K "BadContext") (List.mem_map.mpr ⟨"BadContext", by simp only [bareN, List.cons_append, List.nil_append, List.mem_cons, true_or, or_true], rfl⟩)
  obtain ⟨x_BadDeclaration, q_BadDeclaration⟩ := bares_of Bx (C := He.ga K "BadDeclaration") (List.mem_map.mpr ⟨"BadDeclaration", by simp only [bareN, List.cons_append, List.nil_append, List.mem_cons, true_or, or_true], rfl⟩)
  obtain ⟨x_BadDeed, q_BadDeed⟩ := bares_of Bx (C := He.ga K "BadDeed") (List.mem_map.mpr ⟨"BadDeed", by simp only [bareN, List.cons_append, List.nil_append, List.mem_cons, true_or, or_true], rfl⟩)
  obtain ⟨x_BadErased, q_BadErased⟩ := bares_of Bx (C := He.ga K "BadErased") (List.mem_map.mpr ⟨"BadErased", by simp only [bareN, List.cons_append, List.nil_append, List.mem_cons, true_or, or_true], rfl⟩)
  obtain ⟨x_BadImage, q_BadImage⟩ := bares_of Bx (C := He.ga K "BadImage") (List.mem_map.mpr ⟨"BadImage", by simp only [bareN, List.cons_append, List.nil_append, List.mem_cons, true_or, or_true], rfl⟩)
  obtain ⟨x_BadMaker, q_BadMaker⟩ := bares_of Bx (C := He.ga K "BadMaker") (List.mem_map.mpr ⟨"BadMaker", by simp only [bareN, List.cons_append, List.nil_append, List.mem_cons, true_or, or_true], rfl⟩)
  obtain ⟨x_BadModule, q_BadModule⟩ := bares_of Bx (C := He.ga K "BadModule") (List.mem_map.mpr ⟨"BadModule", by simp only [bareN, List.cons_append, List.nil_append, List.mem_cons, true_or, or_true], rfl⟩)
  obtain ⟨x_BadMoments, q_BadMoments⟩ := bares_of Bx (C := He.ga K "BadMoments") (List.mem_map.mpr ⟨"BadMoments", by simp only [bareN, List.cons_append, List.nil_append, List.mem_cons, true_or, or_true], rfl⟩)
  obtain ⟨x_BadName, q_BadName⟩ := bares_of Bx (C := He.ga K "BadName") (List.mem_map.mpr ⟨"BadName", by simp only [bareN, List.cons_append, List.nil_append, List.mem_cons, true_or, or_true], rfl⟩)
  obtain ⟨x_BadNumber, q_BadNumber⟩ := bares_of Bx (C := He.ga K "BadNumber") (List.mem_map.mpr ⟨"BadNumber", by simp only [bareN, List.cons_append, List.nil_append, List.mem_cons, true_or, or_true], rfl⟩)
  obtain ⟨x_BadObject, q_BadObject⟩ := bares_of Bx (C := He.ga K "BadObject") (List.mem_map.mpr ⟨"BadObject", by simp only [bareN, List.cons_append, List.nil_append, List.mem_cons, true_or, or_true], rfl⟩)
  obtain ⟨x_BadPlace, q_BadPlace⟩ := bares_of Bx (C := He.ga K "BadPlace") (List.mem_map.mpr ⟨"BadPlace", by simp only [bareN, List.cons_append, List.nil_append, List.mem_cons, true_or, or_true], rfl⟩)
  obtain ⟨x_BadRule, q_BadRule⟩ := bares_of Bx (C := He.ga K "BadRule") (List.mem_map.mpr ⟨"BadRule", by simp only [bareN, List.cons_append, List.nil_append, List.mem_cons, true_or, or_true], rfl⟩)
  obtain ⟨x_BadSeal, q_BadSeal⟩ := bares_of Bx (C := He.ga K "BadSeal") (List.mem_map.mpr ⟨"BadSeal", by simp only [bareN, List.cons_append, List.nil_append, List.mem_cons, true_or, or_true], rfl⟩)
  obtain ⟨x_BadSize, q_BadSize⟩ := bares_of Bx (C := He.ga K "BadSize") (List.mem_map.mpr ⟨"BadSize", by simp only [bareN, List.cons_append, List.nil_append, List.mem_cons, true_or, or_true], rfl⟩)
  obtain ⟨x_BadState, q_BadState⟩ := bares_of Bx (C := He.ga K "BadState") (List.mem_map.mpr ⟨"BadState", by simp only [bareN, List.cons_append, List.nil_append, List.mem_cons, true_or, or_true], rfl⟩)
  obtain ⟨x_BadSurface, q_BadSurface⟩ := bares_of Bx (C := He.ga K "BadSurface") (List.mem_map.mpr ⟨"BadSurface", by simp only [bareN, List.cons_append, List.nil_append, List.mem_cons, true_or, or_true], rfl⟩)
  obtain ⟨x_BadTerm, q_BadTerm⟩ := bares_of Bx (C := He.ga K "BadTerm") (List.mem_map.mpr ⟨"BadTerm", by simp only [bareN, List.cons_append, List.nil_append, List.mem_cons, true_or, or_true], rfl⟩)
  obtain ⟨x_BadTree, q_BadTree⟩ := bares_of Bx (C := He.ga K "BadTree") (List.mem_map.mpr ⟨"BadTree", by simp only [bareN, List.cons_append, List.nil_append, List.mem_cons, true_or, or_true], rfl⟩)
  obtain ⟨x_BadType, q_BadType⟩ := bares_of Bx (C := He.ga K "BadType") (List.mem_map.mpr ⟨"BadType", by simp only [bareN, List.cons_append, List.nil_append, List.mem_cons, true_or, or_true], rfl⟩)
  obtain ⟨x_BadUses, q_BadUses⟩ := bares_of Bx (C := He.ga K "BadUses") (List.mem_map.mpr ⟨"BadUses", by simp only [bareN, List.cons_append, List.nil_append, List.mem_cons, true_or, or_true], rfl⟩)
  obtain ⟨x_BadWord, q_BadWord⟩ := bares_of Bx (C := He.ga K "BadWord") (List.mem_map.mpr ⟨"BadWord", by simp only [bareN, List.cons_append, List.nil_append, List.mem_cons, true_or, or_true], rfl⟩)
  obtain ⟨x_BadWorld, q_BadWorld⟩ := bares_of Bx (C := He.ga K "BadWorld") (List.mem_map.mpr ⟨"BadWorld", by simp only [bareN, List.cons_append, List.nil_append, List.mem_cons, true_or, or_true], rfl⟩)
  obtain ⟨x_NotEnded, q_NotEnded⟩ := bares_of Bx (C := He.ga K "NotEnded") (List.mem_map.mpr ⟨"NotEnded", by simp only [bareN, List.cons_append, List.nil_append, List.mem_cons, true_or, or_true], rfl⟩)
  obtain ⟨x_NotShown, q_NotShown⟩ := bares_of Bx (C := He.ga K "NotShown") (List.mem_map.mpr ⟨"NotShown", by simp only [bareN, List.cons_append, List.nil_append, List.mem_cons, true_or, or_true], rfl⟩)
  obtain ⟨x_NothingDone, q_NothingDone⟩ := bares_of Bx (C := He.ga K "NothingDone") (List.mem_map.mpr ⟨"NothingDone", by simp only [bareN, List.cons_append, List.nil_append, List.mem_cons, true_or, or_true], rfl⟩)
  obtain ⟨x_NothingUndone, q_NothingUndone⟩ := bares_of Bx (C := He.ga K "NothingUndone") (List.mem_map.mpr ⟨"NothingUndone", by simp only [bareN, List.cons_append, List.nil_append, List.mem_cons, true_or, or_true], rfl⟩)
  obtain ⟨x_Sealed, q_Sealed⟩ := bares_of Bx (C := He.ga K "Sealed") (List.mem_map.mpr ⟨"Sealed", by simp only [bareN, List.cons_append, List.nil_append, List.mem_cons, true_or, or_true], rfl⟩)
  obtain ⟨x_Used, q_Used⟩ := bares_of Bx (C := He.ga K "Used") (List.mem_map.mpr ⟨"Used", by simp only [bareN, List.cons_append, List.nil_append, List.mem_cons, true_or, or_true], rfl⟩)
  have D_law_blended : Df P w K mg base "_law_blended" 1 ["state"] spBlended := ⟨_, _, ok_blended F__law_blended n_int, m__law_blended, k__law_blended, b__law_blended⟩
  have D_law_draw : Df P w K mg base "_law_draw" 2 ["state", "size_here"] spDraw := ⟨_, _, ok_draw F__law_draw n_int D_law_blended, m__law_draw, k__law_draw, b__law_draw⟩
  have D_law_pick : Df P w K mg base "_law_pick" 3 ["state", "several"] spPick := ⟨_, _, ok_pick F__law_pick n_len D_law_draw, m__law_pick, k__law_pick, b__law_pick⟩
  have KK := kits_of Bi
  exact ok_law F_law n_len n_min n_range n_repr n_enumerate n_isinstance n_ValueError
    ⟨_, _, ok_begun F__law_begun n_abs, m__law_begun, k__law_begun, b__law_begun⟩ D_law_draw D_law_pick
    ⟨_, _, ok_flags F__law_k00_flags n_isinstance g_Astray g_BadBlock g_BadBook g_BadContext g_BadDeclaration g_BadDeed g_BadErased g_BadImage g_BadLines g_BadMaker g_BadModule g_BadMoments g_BadName g_BadNumber g_BadObject g_BadPlace g_BadRule g_BadSeal g_BadSize g_BadState g_BadSurface g_BadTerm g_BadText g_BadTexts g_BadTree g_BadType g_BadUses g_BadWord g_BadWorld g_Bent g_Lacking g_NameTwice g_NotEnded g_NotShown g_NotTaken g_NothingDone g_NothingUndone g_OtherCode g_Refused g_Ring g_Sealed g_TooMany g_TooSmall g_Unlike g_Untyped g_Used, m__law_k00_flags, k__law_k00_flags, b__law_k00_flags⟩
    g_TongueError k_TongueError x_TongueError q_TongueError g_Astray k_Astray x_Astray q_Astray g_BadBlock k_BadBlock x_BadBlock q_BadBlock g_BadBook k_BadBook x_BadBook q_BadBook g_BadContext k_BadContext x_BadContext q_BadContext g_BadDeclaration k_BadDeclaration x_BadDeclaration q_BadDeclaration g_BadDeed k_BadDeed x_BadDeed q_BadDeed g_BadErased k_BadErased x_BadErased q_BadErased g_BadImage k_BadImage x_BadImage q_BadImage g_BadLines k_BadLines Mv_BadLines no_BadLines_index g_BadMaker k_BadMaker x_BadMaker q_BadMaker g_BadModule k_BadModule x_BadModule q_BadModule g_BadMoments k_BadMoments x_BadMoments q_BadMoments g_BadName k_BadName x_BadName q_BadName g_BadNumber k_BadNumber x_BadNumber q_BadNumber g_BadObject k_BadObject x_BadObject q_BadObject g_BadPlace k_BadPlace x_BadPlace q_BadPlace g_BadRule k_BadRule x_BadRule q_BadRule g_BadSeal k_BadSeal x_BadSeal q_BadSeal g_BadSize k_BadSize x_BadSize q_BadSize g_BadState k_BadState x_BadState q_BadState g_BadSurface k_BadSurface x_BadSurface q_BadSurface g_BadTerm k_BadTerm x_BadTerm q_BadTerm g_BadText k_BadText Mv_BadText no_BadText_at g_BadTexts k_BadTexts Mv_BadTexts no_BadTexts_index g_BadTree k_BadTree x_BadTree q_BadTree g_BadType k_BadType x_BadType q_BadType g_BadUses k_BadUses x_BadUses q_BadUses g_BadWord k_BadWord x_BadWord q_BadWord g_BadWorld k_BadWorld x_BadWorld q_BadWorld g_Bent k_Bent Mv_Bent no_Bent_line g_Lacking k_Lacking Mv_Lacking no_Lacking_name g_NameTwice k_NameTwice Mv_NameTwice no_NameTwice_name g_NotEnded k_NotEnded x_NotEnded q_NotEnded g_NotShown k_NotShown x_NotShown q_NotShown g_NotTaken k_NotTaken Mv_NotTaken no_NotTaken_name g_NothingDone k_NothingDone x_NothingDone q_NothingDone g_NothingUndone k_NothingUndone x_NothingUndone q_NothingUndone g_OtherCode k_OtherCode Mv_OtherCode no_OtherCode_own g_Refused k_Refused Mv_Refused no_Refused_name no_Refused_word g_Ring k_Ring Mv_Ring no_Ring_module g_Sealed k_Sealed x_Sealed q_Sealed g_TooMany k_TooMany Mv_TooMany no_TooMany_most g_TooSmall k_TooSmall Mv_TooSmall no_TooSmall_least g_Unlike k_Unlike Mv_Unlike no_Unlike_name g_Untyped k_Untyped Mv_Untyped no_Untyped_word g_Used k_Used x_Used q_Used
    (fun i C e => (KK i C e).1) (kit_of Bt) (fun i C e => (KK i C e).2) B1 B2
abbrev R0 : PySem.W.OpenRow := PySem.W.OpenLaw.row PySem.Challenge.rw_runsasshown_k00_errors_apart
def looseL : List Str := (["__name__", "TongueError", "Astray", "BadBlock", "BadBook", "BadContext", "BadDeclaration", "BadDeed", "BadErased", "BadImage", "BadLines", "BadMaker", "BadModule", "BadMoments", "BadName", "BadNumber", "BadObject", "BadPlace", "BadRule", "BadSeal", "BadSize", "BadState", "BadSurface", "BadTerm", "BadText", "BadTexts", "BadTree", "BadType", "BadUses", "BadWord"] : List Str) ++ (["BadWorld", "Bent", "Lacking", "NameTwice", "NotEnded", "NotShown", "NotTaken", "NothingDone", "NothingUndone", "OtherCode", "Refused", "Ring", "Sealed", "TooMany", "TooSmall", "Unlike", "Untyped", "Used", "_law_begun", "_law_blended", "_law_draw", "_law_pick", "_law_k00_flags"] : List Str)
def hk0 : PySem.W.Hook := hookY 5 faL fnL [] [] (exB R0.prog) inL
def ob0 (s : PySem.W.SharedT) : ObY := obY 5 faL fnL [] [] (exB R0.prog) inL s
theorem run0 (w : World) : HandSHeadRun.RunEq R0 (PySem.W.view R0.prog [54]) hk0 ob0 24000 looseL w := by
  intro os
  kernel_rfl
end RS
open PySem PySem.W PySem.Calls PyProof.Rows
set_option maxRecDepth 100000 in
set_option maxHeartbeats 0 in
theorem PySem.Challenge.cw_runsasshown_k00_errors_apart_holds : PySem.Challenge.rw_runsasshown_k00_errors_apart.Holds := by
  w_on; o_law
  refine HandSHeadRun.head_any (r := OpenLaw.row PySem.Challenge.rw_runsasshown_k00_errors_apart) (q := view (OpenLaw.row PySem.Challenge.rw_runsasshown_k00_errors_apart).prog [54]) (H := RS.hk0) (ob := RS.ob0) (M := 24000) (loose := RS.looseL) (d := HandSHeadRun.topDef (OpenLaw.row PySem.Challenge.rw_runsasshown_k00_errors_apart).prog 54) (kwd := []) (RS.obY_eq 5 RS.faL RS.fnL [] [] (RS.exB RS.R0.prog) RS.inL)
    (by kernel_rfl) (fun s => by kernel_rfl) RS.run0 (by kernel_rfl) (by kernel_rfl) (by kernel_rfl) (by rfl) (by first | assumption | decide +kernel) (by decide +kernel) ⟨rfl, rfl, rfl, rfl, rfl, by decide +kernel⟩ ?hw ?hc
  case hw => w_witness2
  case hc =>
    refine RS.walkE (l := PySem.Challenge.rw_runsasshown_k00_errors_apart) (n := 63) (k := 4) (x := "script") rfl (by decide) (by kernel_rfl) ⟨rfl, by decide, by decide⟩ ?F
    intro w mg fa h Y G hmg0
    obtain ⟨K, KX, c⟩ := Y
    have hmg : mg ("law" : PySem.Str) = some (.ref fa) := by
      have e : (HandSHeadRun.topDef (OpenLaw.row PySem.Challenge.rw_runsasshown_k00_errors_apart).prog 54).name = ("law" : PySem.Str) := by kernel_rfl
      rw [← e]
      exact hmg0
    obtain ⟨fd, hb, hF⟩ := RS.all_mk (P := (PySem.Challenge.rw_runsasshown_k00_errors_apart).prog) KX G hmg c
    exact ⟨K, fd, [], RS.spLaw K, KX, fun _ z => absurd z List.not_mem_nil, fun _ z => absurd z List.not_mem_nil, fun _ z => absurd z List.not_mem_nil, hb, fun H a ns hl _ hS => ⟨a, ns, rfl, hS, hl, fun _ => rfl⟩, fun base k1 k2 _ => hF base k1 k2⟩

