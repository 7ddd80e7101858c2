import PyProof.Rows.All
import Wide.All
import OpenK.AllK
import Wide.FinOn
import HandS.ForMost
import HandS.EndBits
import HandS.Style
import HandS.CallLocal
import KE.SortData
import PyProof.NeData
import HandS.ExcValue
import HandS.ExcInit
import HandS.ExcField
import HandS.ExcBuiltin
import HandS.IsInst
import KE.KExcIs
import KE.KExcSuper
import HandS.NestedK
import HandS.Defaults
import HandS.Head0
import HandS.Head1
import HandS.Head2
import HandS.HeadHook1
import HandS.HeadHook2
import HandS.HeadHook3
import HandS.HeadHook4
import HandS.Exc
import HandS.Lambda
import HandS.WordsExc
import HandS.RaiseMore
import HandS.ExcOwn
import HandS.Walk
import HandS.StrSplit
import HandS.NestedHot
import HandS.ExcInitHot
import HandS.SuiteRaise
import HandS.RaiseFrom
import HandS.HotCalls
import HandS.Finally
import KE.IntTextText
import KE.IntTextLaws
import HandS.More
import HandS.NoneIn
import KE.DataEq
import PyProof.StrLawsChain
import PyProof.StrLawsTight
import PyProof.Rows.StrItems
import PySem.Challenge.RW_runsasshown_k06_whole_texts_of_declarati
set_option Elab.async false
set_option linter.all false
set_option maxRecDepth 100000
set_option maxHeartbeats 8000000
/-! RS: rules on top of the hand layer that our proofs share: walks of lists or tuples, joined operators, data in the abstract heap, repr, defs told by their names. -/
namespace RS
open PySem PySem.Spec PyProof.Rows L2

/-! ### tests whose answer is known, heaps -/
theorem upd_at {H : Hp} {a b : Addr} {o : HO} (h : b = a) : upd H a o b = some o := by subst h; exact upd_same

/-! ### a for over a list or a tuple -/
def iSeq (K : PySem.W.Frag) (tl : TE) : TI := fun σ H R => tl σ H fun x H1 => ∃ a, x = .ref a ∧ (((∃ xs, SqL K H1 a xs) ∧ R (Itl K a) H1) ∨ ((∃ xs, SqT K H1 a xs) ∧ R (Itt K a) H1))
theorem pi_seq {X : Cx} {tg l : Expr} {tl : TE} (hl : PE X l tl) : PI X tg l (iSeq X.K tl) := by
  refine ⟨fun pins s σ H R I h => thn (hl.run pins s σ H _ I h) fun v s1 ⟨x, H1, I1, r1, a, e, q⟩ => ?_⟩
  subst e; cases r1
  have fp : ∀ b ∈ [s1.heap.objs.size], FpOk X pins H1 b := fun b hb => by
    rw [List.mem_singleton.mp hb]; exact I1.fpOk (Nat.le_refl _) (I1.hok.fresh (Nat.le_refl _))
  rcases q with ⟨⟨xs, hq⟩, q⟩ | ⟨⟨xs, hq⟩, q⟩
  · obtain ⟨its, _, p, _⟩ := I1.list hq
    exact wpAny_pyIter_list p.isList ⟨s1.heap.objs.size, [s1.heap.objs.size], _, _, H1, rfl, I1.kept (t' := s1.toks) (fun b o e => Heap.get?_push_of_some _ e), turn_list a _, ⟨_, Heap.get?_push_size _ rfl, rfl, rfl⟩, fp, q⟩
  · obtain ⟨its, _, p, _⟩ := I1.tuple hq
    exact wpAny_pyIter_tuple (show s1.heap.IsTuple a its.toArray from p) ⟨s1.heap.objs.size, [s1.heap.objs.size], _, _, H1, rfl, I1.kept (t' := s1.toks) (fun b o e => Heap.get?_push_of_some _ e), turn_tuple a _, ⟨_, Heap.get?_push_size _ rfl, rfl, rfl⟩, fp, q⟩

/-! ### operators joined over the kinds of values -/
section
variable {X : Cx}
/-- + (a structure, so that the unifier opens the other side) -/
structure rAddU (K : PySem.W.Frag) (x y : V) (H : Hp) (Q : VK) : Prop where
  or : (∃ i j, x = .int i ∧ y = .int j ∧ Q (.int (i + j)) H) ∨ ((∃ i j, x = .str i ∧ y = .str j ∧ i.length + j.length ≤ sizeLine ∧ Q (.str (i ++ j)) H) ∨ (rCat x y H Q ∨ rCatT K x y H Q))
theorem OpR.mono {f : Value → Value → Sem Value} {r r' : R2} (h : OpR X f r) (m : ∀ x y H Q, r' x y H Q → r x y H Q) : OpR X f r' :=
  fun pins s σ H x y v u Q I rx ry q => h pins s σ H x y v u Q I rx ry (m x y H Q q)
theorem uAdd : OpR X (binaryOp .Add) (rAddU X.K) := OpR.mono (OpR.or op_add (OpR.or op_add_str (OpR.or op_cat op_catT))) fun _ _ _ _ h => h.or
theorem add_i {K : PySem.W.Frag} {i j : Int} {H : Hp} {Q : VK} (h : Q (.int (i + j)) H) : rAddU K (.int i) (.int j) H Q := ⟨.inl ⟨i, j, rfl, rfl, h⟩⟩
theorem add_s {K : PySem.W.Frag} {i j : Str} {H : Hp} {Q : VK} (hl : i.length + j.length ≤ sizeLine) (h : Q (.str (i ++ j)) H) : rAddU K (.str i) (.str j) H Q := ⟨.inr (.inl ⟨i, j, rfl, rfl, hl, h⟩)⟩
theorem add_l {K : PySem.W.Frag} {l b : Addr} {xs zs : List V} {H : Hp} {Q : VK} (h1 : H l = some (.lst xs)) (h2 : H b = some (.lst zs)) (hl : xs.length + zs.length ≤ sizeLine) (h : ∀ p, H p = none → Q (.ref p) (upd H p (.lst (xs ++ zs)))) :
    rAddU K (.ref l) (.ref b) H Q := ⟨.inr (.inr (.inl ⟨l, b, xs, zs, rfl, rfl, h1, h2, hl, h⟩))⟩
/-- * -/
structure rMulU (x y : V) (H : Hp) (Q : VK) : Prop where
  or : rI CMul (fun i j => .int (i * j)) x y H Q ∨ rRep x y H Q
theorem uMul : OpR X (binaryOp .Mult) rMulU := OpR.mono (OpR.or op_mul op_rep) fun _ _ _ _ h => h.or
theorem mul_i {i j : Int} {H : Hp} {Q : VK} (hc : CMul i j) (h : Q (.int (i * j)) H) : rMulU (.int i) (.int j) H Q := ⟨.inl ⟨i, j, rfl, rfl, hc, h⟩⟩
theorem mul_l {l : Addr} {k : Int} {xs : List V} {H : Hp} {Q : VK} (h : rRep (.ref l) (.int k) H Q) : rMulU (.ref l) (.int k) H Q := ⟨.inr h⟩
/-- lists of unlike lengths, or both empty -/
def rEqNil (K : PySem.W.Frag) (neg : Bool) : R2 := fun x y H Q => ∃ a b xs, x = .ref a ∧ y = .ref b ∧ SqL K H a xs ∧ SqL K H b [] ∧ Q (.bl (xor neg xs.isEmpty)) H
theorem isL {s : Shared} {pins : List (Addr × Obj)} {σ : L2.St} {H : Hp} {a : Addr} {xs : List V} (I : Inv X pins σ H s) (h : SqL X.K H a xs) : ∃ its : List Value, s.heap.IsList a its.toArray ∧ its.length = xs.length := by
  obtain ⟨its, rv, p, _⟩ := I.list h
  exact ⟨its, p.isList, rv.length.symm⟩
theorem op_eqNil (hu : X.A.units + 64 < cLine) : OpR X (compareOp .Eq) (rEqNil X.K false) := by
  intro pins s σ H x y v u Q I rx ry h
  obtain ⟨a, b, xs, rfl, rfl, ha, hb, q⟩ := h
  cases rx; cases ry
  obtain ⟨i1, l1, e1⟩ := isL I ha
  obtain ⟨i2, l2, e2⟩ := isL I hb
  have e2' : i2 = [] := List.length_eq_zero_iff.mp e2
  subst e2'
  cases xs with
  | nil =>
    have e1' : i1 = [] := List.length_eq_zero_iff.mp e1
    subst e1'
    exact SeqAt.eq_listAt (e := fun _ => true) l1 l2 rfl (by omega) (fun j h1 => absurd h1 (Nat.not_lt_zero j)) ⟨.bl true, H, I, rfl, q⟩
  | cons x xs => exact SeqAt.eq_list_lengthsAt l1 l2 (by simp [e1]) (by omega) ⟨.bl false, H, I, rfl, q⟩
theorem op_neNil (hu : X.A.units + 64 < cLine) : OpR X (compareOp .NotEq) (rEqNil X.K true) := by
  intro pins s σ H x y v u Q I rx ry h
  obtain ⟨a, b, xs, rfl, rfl, ha, hb, q⟩ := h
  cases rx; cases ry
  obtain ⟨i1, l1, e1⟩ := isL I ha
  obtain ⟨i2, l2, e2⟩ := isL I hb
  have e2' : i2 = [] := List.length_eq_zero_iff.mp e2
  subst e2'
  cases xs with
  | nil =>
    have e1' : i1 = [] := List.length_eq_zero_iff.mp e1
    subst e1'
    exact SeqAt.RcNeAt.lists (e := fun _ => true) l1 l2 rfl (by omega) (fun j h1 => absurd h1 (Nat.not_lt_zero j)) _ _ _ _ ⟨.bl false, H, I, rfl, q⟩
  | cons x xs => exact SeqAt.RcNeAt.lists_lengths l1 l2 (by simp [e1]) (by omega) _ _ _ _ ⟨.bl true, H, I, rfl, q⟩
/-- == and != : flat values; a list and []; data of any depth -/
structure rEqU (K : PySem.W.Frag) (neg : Bool) (x y : V) (H : Hp) (Q : VK) : Prop where
  or : (scal x y = true ∧ Q (.bl (xor neg (decide (x = y)))) H) ∨ (rEqNil K neg x y H Q ∨ ∃ d e, Dp K H x d ∧ Dp K H y e ∧ SeqAt.shaped d = true ∧ SeqAt.shaped e = true ∧ Q (.bl (xor neg (PyData.eqv d e))) H)
theorem uEq (hu : X.A.units + 64 < cLine) : OpR X (compareOp .Eq) (rEqU X.K false) :=
  OpR.mono (OpR.or op_eq (OpR.or (op_eqNil hu) (op_eqD hu))) fun x y H Q h => by
    rcases h.or with ⟨h1, h2⟩ | h | ⟨d, e, h1, h2, h3, h4, h5⟩
    · exact .inl ⟨h1, by simpa using h2⟩
    · exact .inr (.inl h)
    · exact .inr (.inr ⟨d, e, h1, h2, h3, h4, by simpa using h5⟩)
theorem uNe (hu : X.A.units + 64 < cLine) : OpR X (compareOp .NotEq) (rEqU X.K true) :=
  OpR.mono (OpR.or op_ne (OpR.or (op_neNil hu) (op_neD hu))) fun x y H Q h => by
    rcases h.or with ⟨h1, h2⟩ | h | ⟨d, e, h1, h2, h3, h4, h5⟩
    · exact .inl ⟨h1, by simpa using h2⟩
    · exact .inr (.inl h)
    · exact .inr (.inr ⟨d, e, h1, h2, h3, h4, by simpa using h5⟩)
theorem eq_f {K : PySem.W.Frag} {neg : Bool} {x y : V} {H : Hp} {Q : VK} {b : Bool} (hs : scal x y = true) (hb : xor neg (decide (x = y)) = b) (h : Q (.bl b) H) : rEqU K neg x y H Q := ⟨.inl ⟨hs, by rw [hb]; exact h⟩⟩
theorem eq_n {K : PySem.W.Frag} {neg : Bool} {a p : Addr} {xs : List V} {H : Hp} {Q : VK} {b : Bool} (h1 : SqL K H a xs) (h2 : SqL K H p []) (hb : xor neg xs.isEmpty = b) (h : Q (.bl b) H) : rEqU K neg (.ref a) (.ref p) H Q :=
  ⟨.inr (.inl ⟨a, p, xs, rfl, rfl, h1, h2, by rw [hb]; exact h⟩)⟩
theorem eq_d {K : PySem.W.Frag} {neg : Bool} {x y : V} {d e : PyData} {H : Hp} {Q : VK} {b : Bool} (h1 : Dp K H x d) (h2 : Dp K H y e) (h3 : SeqAt.shaped d = true) (h4 : SeqAt.shaped e = true) (hb : xor neg (PyData.eqv d e) = b) (h : Q (.bl b) H) : rEqU K neg x y H Q :=
  ⟨.inr (.inr ⟨d, e, h1, h2, h3, h4, by rw [hb]; exact h⟩)⟩
/-- in, not in: a sign in a text is left out; flat values in a list or a tuple, a text in a text -/
structure rInU (K : PySem.W.Frag) (neg : Bool) (x y : V) (H : Hp) (Q : VK) : Prop where
  or : rIn K neg x y H Q ∨ ∃ i j, x = .str i ∧ y = .str j ∧ Q (.bl (xor neg (!(Builtin.Str.occurrences j i 0 j.length 1).isEmpty))) H
theorem uIn : OpR X (compareOp .In) (rInU X.K false) := OpR.mono (OpR.or op_in_seq op_in_str) fun x y H Q h => by
  rcases h.or with h | ⟨i, j, h1, h2, h3⟩
  · exact .inl h
  · exact .inr ⟨i, j, h1, h2, by simpa using h3⟩
theorem uNotIn : OpR X (compareOp .NotIn) (rInU X.K true) := OpR.mono (OpR.or op_notIn_seq op_notin_str) fun x y H Q h => by
  rcases h.or with h | ⟨i, j, h1, h2, h3⟩
  · exact .inl h
  · exact .inr ⟨i, j, h1, h2, by simpa using h3⟩
theorem in_t {K : PySem.W.Frag} {neg : Bool} {x : V} {p : Addr} {xs : List V} {H : Hp} {Q : VK} {b : Bool} (h1 : SqT K H p xs) (hf : flatV x = true) (hx : xs.all flatV = true) (hb : xor neg (inV x xs) = b) (h : Q (.bl b) H) : rInU K neg x (.ref p) H Q :=
  ⟨.inl ⟨p, xs, rfl, .inr h1, hf, hx, by cases neg <;> simpa [← hb] using h⟩⟩
theorem in_l {K : PySem.W.Frag} {neg : Bool} {x : V} {p : Addr} {xs : List V} {H : Hp} {Q : VK} {b : Bool} (h1 : SqL K H p xs) (hf : flatV x = true) (hx : xs.all flatV = true) (hb : xor neg (inV x xs) = b) (h : Q (.bl b) H) : rInU K neg x (.ref p) H Q :=
  ⟨.inl ⟨p, xs, rfl, .inl h1, hf, hx, by cases neg <;> simpa [← hb] using h⟩⟩
theorem uLen : CallR X (.builtin "len") (fun xs H Q => ∃ x n, xs = [x] ∧ LenV X.K x H n ∧ Q (.int n) H) := call_len
end

/-! ### the same, the written part told by a letter (within a comprehension's block) -/
theorem uAddK {X : Cx} {K : PySem.W.Frag} (h : X.K = K) : OpR X (binaryOp .Add) (rAddU K) := h ▸ uAdd
theorem uEqK {X : Cx} {K : PySem.W.Frag} (h : X.K = K) (hu : X.A.units + 64 < cLine) : OpR X (compareOp .Eq) (rEqU K false) := h ▸ uEq hu
theorem uNeK {X : Cx} {K : PySem.W.Frag} (h : X.K = K) (hu : X.A.units + 64 < cLine) : OpR X (compareOp .NotEq) (rEqU K true) := h ▸ uNe hu
theorem uInK {X : Cx} {K : PySem.W.Frag} (h : X.K = K) : OpR X (compareOp .In) (rInU K false) := h ▸ uIn
theorem uNotInK {X : Cx} {K : PySem.W.Frag} (h : X.K = K) : OpR X (compareOp .NotIn) (rInU K true) := h ▸ uNotIn
theorem ixK {X : Cx} {K : PySem.W.Frag} (h : X.K = K) : IxR X (rIx K) := h ▸ ix_seq

/-! ### and, or of tests: a structure, so that the unifier opens the other side -/
structure tW (t : TT) (σ : L2.St) (H : Hp) (Q : Bool → Hp → Prop) : Prop where
  h : t σ H Q
theorem pt_w {X : Cx} {e : Expr} {t : TT} (h : PT X e t) : PT X e (tW t) := ⟨fun pins s σ H Q I q => h.run pins s σ H Q I q.h⟩
/-- a test whose answer is known -/
def Val (t : TT) (σ : L2.St) (H : Hp) (b : Bool) : Prop := ∀ Q : Bool → Hp → Prop, Q b H → t σ H Q
theorem Val.and {tA tB : TT} {σ : L2.St} {H : Hp} {a b : Bool} (hA : Val tA σ H a) (hB : a = true → Val tB σ H b) : Val (tAnd tA tB) σ H (a && b) := fun Q h => by
  refine hA _ ?_
  cases a with
  | true => exact iteT (hB rfl _ h)
  | false => exact iteF h
theorem Val.or {tA tB : TT} {σ : L2.St} {H : Hp} {a b : Bool} (hA : Val tA σ H a) (hB : a = false → Val tB σ H b) : Val (tOr tA tB) σ H (a || b) := fun Q h => by
  refine hA _ ?_
  cases a with
  | true => exact iteT h
  | false => exact iteF (hB rfl _ h)
theorem w_val {t : TT} {σ : L2.St} {H : Hp} {Q : Bool → Hp → Prop} (b : Bool) (hv : Val t σ H b) (h : Q b H) : tW t σ H Q := ⟨hv _ h⟩

/-! ### data: atoms and tuples -/
mutual
inductive Dt (K : PySem.W.Frag) (H : Hp) : V → PyData → Prop
  | non : Dt K H .non .none
  | bl (b : Bool) : Dt K H (.bl b) (.bool b)
  | int (i : Int) : Dt K H (.int i) (.int i)
  | str (x : Str) : Dt K H (.str x) (.str x)
  | tup {a : Addr} {xs : List V} {ds : List PyData} : SqT K H a xs → DtAll K H xs ds → Dt K H (.ref a) (.tuple ds)
inductive DtAll (K : PySem.W.Frag) (H : Hp) : List V → List PyData → Prop
  | nil : DtAll K H [] []
  | cons {v : V} {vs : List V} {d : PyData} {ds : List PyData} : Dt K H v d → DtAll K H vs ds → DtAll K H (v :: vs) (d :: ds)
end
/-- the tuples stay -/
def TK (K : PySem.W.Frag) (H H' : Hp) : Prop := ∀ a xs, SqT K H a xs → SqT K H' a xs
theorem TK.refl {K : PySem.W.Frag} (H : Hp) : TK K H H := fun _ _ h => h
theorem TK.trans {K : PySem.W.Frag} {H H1 H2 : Hp} (a : TK K H H1) (b : TK K H1 H2) : TK K H H2 := fun c xs h => b c xs (a c xs h)
theorem TK.of {K : PySem.W.Frag} {H H' : Hp} (h : ∀ a xs, H a = some (.tup xs) → H' a = some (.tup xs)) (h2 : ∀ a o u, H a = some (.frz o u) → H' a = some (.frz o u)) : TK K H H' := fun a xs q => by
  rcases q with (q | ⟨o, q⟩) | q
  · exact .inl (.inl (h _ _ q))
  · exact .inl (.inr ⟨o, h2 _ _ _ q⟩)
  · exact .inr q
theorem TK.same {K : PySem.W.Frag} {H H' : Hp} (e : Same H H') : TK K H H' := TK.of (fun _ _ h => e _ _ h) fun _ _ _ h => e _ _ h
theorem TK.new {K : PySem.W.Frag} {H : Hp} {p : Addr} {o : HO} (h : H p = none) : TK K H (upd H p o) := TK.same fun b u e => by rw [upd_ne (ne_of_none e h)]; exact e
theorem TK.lst {K : PySem.W.Frag} {H : Hp} {p : Addr} {xs : List V} {o : HO} (h : H p = some (.lst xs)) : TK K H (upd H p o) :=
  TK.of (fun a ys e => by rw [upd_ne (ne_of e h (by intro z; cases z))]; exact e) fun a u w e => by rw [upd_ne (ne_of e h (by intro z; cases z))]; exact e
theorem TK.dK {K : PySem.W.Frag} {H : Hp} {p : Addr} {xs : List (Key × V)} {o : HO} (h : H p = some (.dK xs)) : TK K H (upd H p o) :=
  TK.of (fun a ys e => by rw [upd_ne (ne_of e h (by intro z; cases z))]; exact e) fun a u w e => by rw [upd_ne (ne_of e h (by intro z; cases z))]; exact e
mutual
theorem Dt.keep {K : PySem.W.Frag} {H H' : Hp} (t : TK K H H') : ∀ {v : V} (d : PyData), Dt K H v d → Dt K H' v d
  | _, _, .non => .non
  | _, _, .bl b => .bl b
  | _, _, .int i => .int i
  | _, _, .str x => .str x
  | _, _, .tup h r => .tup (t _ _ h) (DtAll.keep t _ r)
theorem DtAll.keep {K : PySem.W.Frag} {H H' : Hp} (t : TK K H H') : ∀ {vs : List V} (ds : List PyData), DtAll K H vs ds → DtAll K H' vs ds
  | _, _, .nil => .nil
  | _, _, .cons h r => .cons (Dt.keep t _ h) (DtAll.keep t _ r)
end
mutual
theorem Dt.dp {K : PySem.W.Frag} {H : Hp} : ∀ {v : V} (d : PyData), Dt K H v d → Dp K H v d
  | _, _, .non => .non
  | _, _, .bl b => .bl b
  | _, _, .int i => .int i
  | _, _, .str x => .str x
  | _, _, .tup h r => .tup h (DtAll.dp _ r)
theorem DtAll.dp {K : PySem.W.Frag} {H : Hp} : ∀ {vs : List V} (ds : List PyData), DtAll K H vs ds → DpAll K H vs ds
  | _, _, .nil => .nil
  | _, _, .cons h r => .cons (Dt.dp _ h) (DtAll.dp _ r)
end
theorem DtAll.length {K : PySem.W.Frag} {H : Hp} : ∀ {vs : List V} {ds : List PyData}, DtAll K H vs ds → vs.length = ds.length
  | _, _, .nil => rfl
  | _, _, .cons _ r => by rw [List.length_cons, List.length_cons, r.length]
theorem DtAll.append {K : PySem.W.Frag} {H : Hp} : ∀ {vs ws : List V} {ds es : List PyData}, DtAll K H vs ds → DtAll K H ws es → DtAll K H (vs ++ ws) (ds ++ es)
  | _, _, _, _, .nil, s => s
  | _, _, _, _, .cons h r, s => .cons h (r.append s)
theorem DtAll.get {K : PySem.W.Frag} {H : Hp} : ∀ {vs : List V} {ds : List PyData} {i : Nat} {v : V}, DtAll K H vs ds → vs[i]? = some v → ∃ d, ds[i]? = some d ∧ Dt K H v d
  | _, _, _, _, .nil, e => by simp at e
  | _, _, 0, _, .cons h _, e => by simp at e; subst e; exact ⟨_, rfl, h⟩
  | _, _, i + 1, v, .cons _ r, e => by
    obtain ⟨d, h1, h2⟩ := DtAll.get (i := i) (v := v) r (by simpa using e)
    exact ⟨d, by simpa using h1, h2⟩
theorem DtAll.get' {K : PySem.W.Frag} {H : Hp} : ∀ {vs : List V} {ds : List PyData} {i : Nat} {d : PyData}, DtAll K H vs ds → ds[i]? = some d → ∃ v, vs[i]? = some v ∧ Dt K H v d
  | _, _, _, _, .nil, e => by simp at e
  | _, _, 0, _, .cons h _, e => by simp at e; subst e; exact ⟨_, rfl, h⟩
  | _, _, i + 1, d, .cons _ r, e => by
    obtain ⟨v, h1, h2⟩ := DtAll.get' (i := i) (d := d) r (by simpa using e)
    exact ⟨v, by simpa using h1, h2⟩
theorem DtAll.reverse {K : PySem.W.Frag} {H : Hp} : ∀ {vs : List V} {ds : List PyData}, DtAll K H vs ds → DtAll K H vs.reverse ds.reverse
  | _, _, .nil => .nil
  | _, _, .cons h r => by rw [List.reverse_cons, List.reverse_cons]; exact r.reverse.append (.cons h .nil)
theorem DtAll.dropLast {K : PySem.W.Frag} {H : Hp} : ∀ {vs : List V} {ds : List PyData}, DtAll K H vs ds → DtAll K H vs.dropLast ds.dropLast
  | _, _, .nil => .nil
  | _, _, .cons h .nil => .nil
  | _, _, .cons h (.cons h2 r) => .cons h (DtAll.dropLast (.cons h2 r))

/-! ### displays: structures, so that the unifier opens the other side -/
theorem line_of {n : Nat} (h : n ≤ 1000) : n ≤ sizeLine := by rw [sizeLine_eq]; omega
theorem lt_line {n : Nat} (h : n ≤ 1000) : n < sizeLine := by rw [sizeLine_eq]; omega
theorem same_new {H : Hp} {p : Addr} {o : HO} (h : H p = none) : Same H (upd H p o) := fun b u e => by rw [upd_ne (ne_of_none e h)]; exact e
structure rNewT (xs : List V) (H : Hp) (Q : VK) : Prop where
  h : xs.length ≤ sizeLine ∧ ∀ p, H p = none → Q (.ref p) (upd H p (.tup xs))
structure rNewL (xs : List V) (H : Hp) (Q : VK) : Prop where
  h : xs.length ≤ sizeLine ∧ ∀ p, H p = none → Q (.ref p) (upd H p (.lst xs))
theorem PE.mono {X : Cx} {e : Expr} {t t' : TE} (h : PE X e t) (m : ∀ σ H Q, t' σ H Q → t σ H Q) : PE X e t' := ⟨fun pins s σ H Q I q => h.run pins s σ H Q I (m σ H Q q)⟩
theorem PA.mono {X : Cx} {es : List Expr} {t : TA} (h : PA X es t) {σ : L2.St} {H : Hp} {Q Q' : List V → Hp → Prop} (q : t σ H Q) (m : ∀ xs H1, Q xs H1 → Q' xs H1) (pos : Pos) (pins : List (Addr × Obj)) (s : Shared) (I : Inv X pins σ H s) :
    wpAny (model X.prog X.w) X.A (spliced (backTo pos (starEach es X.env))) (AP X pins σ Q') X.xe s :=
  thn (h.run pos pins s σ H Q I q) fun us s1 ⟨xs, H1, I1, r, q1⟩ => ⟨xs, H1, I1, r, m xs H1 q1⟩
def tTupN (t : TA) : TE := fun σ H Q => t σ H fun xs H1 => rNewT xs H1 Q
def tLstN (t : TA) : TE := fun σ H Q => t σ H fun xs H1 => rNewL xs H1 Q
theorem pe_tupN {X : Cx} {es : List Expr} {t : TA} {x1 : Nat} {pos : Pos} (h : PA X es t) : PE X (.Tuple es x1 pos) (tTupN t) := by
  refine ⟨fun pins s σ H Q I q => wpAny_Tuple_spliced (thn (h.run pos pins s σ H _ I q) fun us s1 ⟨xs, H1, I1, r, ⟨z, q⟩⟩ => ⟨by rw [← r.length]; exact z, ?_⟩)⟩
  have nf : H1 s1.heap.objs.size = none := I1.hok.fresh (Nat.le_refl _)
  exact ⟨.ref s1.heap.objs.size, upd H1 s1.heap.objs.size (.tup xs), I1.laid (t' := s1.toks) (fun b u e => Heap.get?_push_of_some _ e) (Nat.le_refl _) ⟨z, us, r, ⟨_, Heap.get?_push_size _ rfl, rfl, _, rfl⟩⟩, rfl, q _ nf⟩
theorem pe_lstN {X : Cx} {es : List Expr} {t : TA} {pos : Pos} (h : PA X es t) : PE X (.List es pos) (tLstN t) := by
  refine ⟨fun pins s σ H Q I q => wpAny_List_spliced (thn (h.run pos pins s σ H _ I q) fun us s1 ⟨xs, H1, I1, r, ⟨z, q⟩⟩ => ⟨by rw [← r.length]; exact z, ?_⟩)⟩
  have nf : H1 s1.heap.objs.size = none := I1.hok.fresh (Nat.le_refl _)
  exact ⟨.ref s1.heap.objs.size, upd H1 s1.heap.objs.size (.lst xs), I1.laid (t' := s1.toks) (fun b u e => Heap.get?_push_of_some _ e) (Nat.le_refl _) ⟨z, us, 0, r, Heap.get?_push_size _ rfl⟩, rfl, q _ nf⟩
theorem tup_new {K : PySem.W.Frag} {H : Hp} {xs : List V} {ds : List PyData} {Q : VK} (h : DtAll K H xs ds) (hz : xs.length ≤ 1000) (k : ∀ v H', Same H H' → Dt K H' v (.tuple ds) → Q v H') : rNewT xs H Q :=
  ⟨line_of hz, fun p np => k _ _ (same_new np) (.tup (SqT.of upd_same) (DtAll.keep (TK.new np) _ h))⟩
theorem tup_at {H : Hp} {xs : List V} {Q : VK} (hz : xs.length ≤ 1000) (k : ∀ p, H p = none → Q (.ref p) (upd H p (.tup xs))) : rNewT xs H Q := ⟨line_of hz, k⟩
theorem lst_new {H : Hp} {xs : List V} {Q : VK} (hz : xs.length ≤ 1000) (k : ∀ p, H p = none → Q (.ref p) (upd H p (.lst xs))) : rNewL xs H Q := ⟨line_of hz, k⟩
theorem Dt.same {K : PySem.W.Frag} {H H' : Hp} {v : V} {d : PyData} (h : Dt K H v d) (e : Same H H') : Dt K H' v d := Dt.keep (TK.same e) _ h

/-! ### what holds behind a statement, said once for all its ways -/
def tJoin (t : TS) : TS := fun D σ H => ∃ R : L2.St → Hp → Prop, t { D with nx := R } σ H ∧ ∀ σ' H', R σ' H' → D.nx σ' H'
theorem ps_join {X : Cx} {st : Stmt} {t : TS} (h : PS X st t) : PS X st (tJoin t) := by
  refine ⟨fun pins s σ H D I ⟨R, q, m⟩ => thn (h.run pins s σ H _ I q) fun f s' z => ?_⟩
  cases f with
  | next => obtain ⟨σ', H', J, r⟩ := z; exact ⟨σ', H', J, m _ _ r⟩
  | brk => exact z
  | cont => exact z
  | ret u => exact z

/-! ### repr of data -/
def AG (A : Around) : Prop := A.guards = some []
theorem cr_repr {X : Cx} (hg : AG X.A) (hu : X.A.units + 64 < cLine) : CallR X (.builtin "repr") (fun xs H Q => ∃ a d, xs = [.ref a] ∧ Dp X.K H (.ref a) d ∧ d.showable = true ∧ d.hasDict = false ∧ d.depth + 1 ≤ 64 ∧ d.shown.length ≤ sizeLine ∧ Q (.str d.shown) H) := by
  intro pins s σ H xs us Q I r h
  obtain ⟨a, d, rfl, hd, hs, hn, hdep, hz, q⟩ := h
  obtain ⟨as, rd⟩ := Dp.reads I d (.ref a) (.ref a) hd rfl
  rw [Vals.ref1 r]
  exact repr_of_reads' rd hs (PyData.noDict_hsm hn) hg (by omega) (fun _ _ e => e) (fun h' u tk hk => ⟨.str d.shown, H, I.kept hk, ⟨u, rfl⟩, q⟩) hz

/-! ### a def of the module, told by its name -/
structure Df (P : Program) (w : World) (K : PySem.W.Frag) (mg : Str → Option Value) (base : Heap) (x : Str) (k : Nat) (ps : List Str) (sp : Sp) : Prop where
  ex : ∃ f fd, FnOk P w K mg base CX0 k f fd ps sp ∧ mg x = some (.ref f) ∧ PySem.W.keepIn K (.ref f) = true ∧ Binds K fd ps []
theorem Df.mono {P : Program} {w : World} {K : PySem.W.Frag} {mg : Str → Option Value} {base : Heap} {x : Str} {j k : Nat} {ps : List Str} {sp : Sp} (D : Df P w K mg base x j ps sp) (h : j ≤ k) : Df P w K mg base x k ps sp := by
  obtain ⟨f, fd, F, r⟩ := D.ex
  exact ⟨f, fd, F.mono h, r⟩
theorem Df.imp {P : Program} {w : World} {K : PySem.W.Frag} {mg : Str → Option Value} {base : Heap} {x : Str} {k : Nat} {ps : List Str} {sp sp' : Sp} (D : Df P w K mg base x k ps sp) (h : ∀ vs H Q E, sp' vs H Q E → sp vs H Q E) : Df P w K mg base x k ps sp' := by
  obtain ⟨f, fd, F, r⟩ := D.ex
  exact ⟨f, fd, F.imp h, r⟩
theorem app_nil_call {sp : Sp} {t : TA} {E : XK} : tCall sp [] E t = fun σ H Q => t σ H fun vs H1 => sp vs H1 Q E := by
  funext σ H Q
  show t σ H (fun vs H1 => sp (vs ++ []) H1 Q E) = _
  have e : (fun (vs : List V) (H1 : Hp) => sp (vs ++ []) H1 Q E) = fun vs H1 => sp vs H1 Q E := by funext vs H1; rw [List.append_nil]
  rw [e]
def tDf (sp : Sp) (t : TA) : TE := fun σ H Q => t σ H fun vs H1 => sp vs H1 Q E0
theorem pe_df {X : Cx} {x : Str} {j k : Nat} {ps : List Str} {sp : Sp} {e : Expr} {es : List Expr} {t : TA} {p pos : Pos} (D : Df X.prog X.w X.K X.mg X.base x j ps sp) (hr : Room k X.A) (hk : j ≤ k) (ha : PA X (e :: es) t) (hg : Gl X x := by rfl)
    (hdb : (x == ("__debug__" : Str)) = false := by decide) (he : starEach (e :: es) X.env = (false, eval e X.env) :: starEach es X.env := by rfl) (hpl : (backTo pos (starEach es X.env)).any (·.1) = false := by rfl) :
    PE X (.Call (.Name x p) (e :: es) [] pos) (tDf sp t) := by
  obtain ⟨f, fd, F, hm, kp, b⟩ := D.ex
  have q := pe_call (p := p) (pos := pos) F (hr.mono hk) hg hm kp b .nil (pass0 (X := X)) ha hdb he hpl
  rw [app_nil_call] at q
  exact q

/-! ### calls by keywords alone -/
def permL {α : Type} (π : List Nat) (ws : List α) : List α := π.filterMap fun i => ws[i]?
theorem vals_perm {zs : List V} {ws : List Value} (r : Vals zs ws) : ∀ π : List Nat, Vals (permL π zs) (permL π ws)
  | [] => .nil
  | i :: π => by
    have ih := vals_perm r π
    unfold permL at ih ⊢
    rw [List.filterMap_cons, List.filterMap_cons]
    cases e : zs[i]? with
    | none => rw [r.none_of e]; exact ih
    | some x =>
      obtain ⟨u, hu, ru⟩ := r.get e
      rw [hu]
      exact .cons ru ih
/-- how a call by keywords alone binds: ks the keywords as written, π their places in the parameters' order -/
def BindsK0 (K : PySem.W.Frag) (fd : FuncData) (ps ks : List Str) (π : List Nat) : Prop :=
  ∀ (s : Shared) (ws : List Value), K.In s.heap → ws.length = ks.length → BindsTo s fd ⟨[], ks.zip ws⟩ (ps.zip (permL π ws))
structure DfK (P : Program) (w : World) (K : PySem.W.Frag) (mg : Str → Option Value) (base : Heap) (x : Str) (k : Nat) (ps : List Str) (sp : Sp) (ks : List Str) (π : List Nat) : Prop where
  ex : ∃ f fd, FnOk P w K mg base CX0 k f fd ps sp ∧ mg x = some (.ref f) ∧ PySem.W.keepIn K (.ref f) = true ∧ BindsK0 K fd ps ks π
  ln : ∀ {α : Type} (zs : List α), zs.length = ks.length → (permL π zs).length = ps.length
def tDfK (sp : Sp) (ks : List Str) (π : List Nat) (tk : TA) : TE := fun σ H Q => tk σ H fun zs H1 => zs.length = ks.length ∧ sp (permL π zs) H1 Q E0
theorem run_k0 {X : Cx} {pins : List (Addr × Obj)} {σ : L2.St} {H : Hp} {s : Shared} {Q : VK} {ws : List Value} {zs : List V} {f : Addr} {fd : FuncData} {ps ks : List Str} {π : List Nat} {sp : Sp} {k : Nat} (F : FnOk X.prog X.w X.K X.mg X.base CX0 k f fd ps sp) (hr : Room k X.A)
    (hb : BindsK0 X.K fd ps ks π) (I : Inv X pins σ H s) (rz : Vals zs ws) (hl : zs.length = ks.length) (h : sp (permL π zs) H Q E0) : wpAny (model X.prog X.w) X.A (call (.ref f) [] (ks.zip ws)) (EP X pins σ Q) X.xe s := by
  refine wpAny_call (codeAny_mono (F.run X.A X.stack s H ⟨[], ks.zip ws⟩ (permL π ws) (permL π zs) Q E0 hr I.env0 (hb s ws I.kIn (by rw [← rz.length]; exact hl)) (vals_perm rz π) h) fun r s' hq => ?_)
  cases r with
  | error e => exact False.elim hq
  | ok fl =>
    cases fl with
    | ret u => exact I.after hq
    | next => exact False.elim hq
    | brk => exact False.elim hq
    | cont => exact False.elim hq
theorem pe_dfK {X : Cx} {x : Str} {j k : Nat} {ps ks : List Str} {π : List Nat} {sp : Sp} {kws : List Keyword} {tk : TA} {p pos : Pos} (D : DfK X.prog X.w X.K X.mg X.base x j ps sp ks π) (hr : Room k X.A) (hk : j ≤ k) (hkw : PK X kws tk) (hg : Gl X x := by rfl)
    (hall : (backToKw pos (keywordEach kws X.env)).all (·.1.isSome) = true := by rfl) (hks : (backToKw pos (keywordEach kws X.env)).filterMap (·.1) = ks := by rfl) (hdb : (x == ("__debug__" : Str)) = false := by decide)
    (hpl : ((backTo pos (starEach [] X.env)).any (·.1) || (backToKw pos (keywordEach kws X.env)).any (·.1.isNone)) = false := by rfl) :
    PE X (.Call (.Name x p) [] kws pos) (tDfK sp ks π tk) := by
  obtain ⟨f, fd, F, hm, kp, b⟩ := D.ex
  refine ⟨fun pins s σ H Q I h => wpAny_Call_Name_kw (ld_glob I hg hm ?_ hdb)⟩
  refine PySem.W.callWith_KW0 (h₀ := X.base) I.ok.mod.kin kp hall (thn (hkw.run pos pins s σ H _ I h) fun ws s2 ⟨zs, H2, I2, rz, hl, q2⟩ => ⟨I2.kIn, ?_⟩) hpl
  rw [hks]
  exact run_k0 F (hr.mono hk) b I2 rz hl q2
/-- a local name that holds one of some defs: called by position, by keywords -/
structure Hd (P : Program) (w : World) (K : PySem.W.Frag) (mg : Str → Option Value) (base : Heap) (k : Nat) (f : Addr) (ps : List Str) (sp : Sp) (ks : List Str) (π : List Nat) : Prop where
  ex : ∃ fd, FnOk P w K mg base CX0 k f fd ps sp ∧ PySem.W.keepIn K (.ref f) = true ∧ Binds K fd ps [] ∧ BindsK0 K fd ps ks π
def tHd (i : Nat) (S : Addr → Sp → Prop) (t : TA) : TE := fun σ H Q => ∃ f sp, σ[i]? = some (some (.ref f)) ∧ S f sp ∧ t σ H fun vs H1 => sp vs H1 Q E0
def tHdK (i : Nat) (S : Addr → Sp → Prop) (ks : List Str) (π : List Nat) (t : TA) : TE := fun σ H Q => ∃ f sp, σ[i]? = some (some (.ref f)) ∧ S f sp ∧ t σ H fun zs H1 => zs.length = ks.length ∧ sp (permL π zs) H1 Q E0
theorem pe_hd {X : Cx} {i j k : Nat} {x : Str} {S : Addr → Sp → Prop} {ps ks : List Str} {π : List Nat} {e : Expr} {es : List Expr} {t : TA} {p pos : Pos} (A : ∀ f sp, S f sp → Hd X.prog X.w X.K X.mg X.base j f ps sp ks π) (hr : Room k X.A) (hk : j ≤ k) (ha : PA X (e :: es) t)
    (hN : X.N[i]? = some x := by rfl) (hv : Vis X.env.scope x := by first | exact Or.inl rfl | exact Or.inr (Or.inl rfl) | exact Or.inr (Or.inr rfl)) (hdb : (x == ("__debug__" : Str)) = false := by decide) (hcd : (x == ("__classdict__" : Str)) = false := by decide)
    (he : starEach (e :: es) X.env = (false, eval e X.env) :: starEach es X.env := by rfl) (hpl : (backTo pos (starEach es X.env)).any (·.1) = false := by rfl) : PE X (.Call (.Name x p) (e :: es) [] pos) (tHd i S t) := by
  refine ⟨fun pins s σ H Q I ⟨f, sp, hs, hS, ht⟩ => ?_⟩
  obtain ⟨fd, F, kp, b, _⟩ := (A f sp hS).ex
  have q := (pe_callL (p := p) (pos := pos) F (hr.mono hk) hN hv kp b .nil (pass0 (X := X)) ha hdb hcd he hpl).run pins s σ H Q I
  refine q ⟨hs, ?_⟩
  have e0 : (fun (vs : List V) (H1 : Hp) => sp (vs ++ []) H1 Q E0) = fun vs H1 => sp vs H1 Q E0 := by funext vs H1; rw [List.append_nil]
  rw [e0]; exact ht
theorem pe_hdK {X : Cx} {i j k : Nat} {x : Str} {S : Addr → Sp → Prop} {ps ks : List Str} {π : List Nat} {kws : List Keyword} {tk : TA} {p pos : Pos} (A : ∀ f sp, S f sp → Hd X.prog X.w X.K X.mg X.base j f ps sp ks π) (hr : Room k X.A) (hk : j ≤ k) (hkw : PK X kws tk)
    (hN : X.N[i]? = some x := by rfl) (hv : Vis X.env.scope x := by first | exact Or.inl rfl | exact Or.inr (Or.inl rfl) | exact Or.inr (Or.inr rfl))
    (hall : (backToKw pos (keywordEach kws X.env)).all (·.1.isSome) = true := by rfl) (hks : (backToKw pos (keywordEach kws X.env)).filterMap (·.1) = ks := by rfl) (hdb : (x == ("__debug__" : Str)) = false := by decide) (hcd : (x == ("__classdict__" : Str)) = false := by decide)
    (hpl : ((backTo pos (starEach [] X.env)).any (·.1) || (backToKw pos (keywordEach kws X.env)).any (·.1.isNone)) = false := by rfl) :
    PE X (.Call (.Name x p) [] kws pos) (tHdK i S ks π tk) := by
  refine ⟨fun pins s σ H Q I ⟨f, sp, hs, hS, ht⟩ => ?_⟩
  obtain ⟨fd, F, kp, _, b⟩ := (A f sp hS).ex
  refine wpAny_Call_Name_kw (thn ((pe_var (pos := p) hN hv hdb hcd).run pins s σ H (fun v H1 => v = .ref f ∧ H1 = H) I ⟨.ref f, hs, rfl, rfl⟩) fun u s1 ⟨v, H1, I1, r1, q1⟩ => ?_)
  obtain ⟨rfl, rfl⟩ := q1
  cases r1
  refine PySem.W.callWith_KW0 (h₀ := X.base) I.ok.mod.kin kp hall (thn (hkw.run pos pins s1 σ _ _ I1 ht) fun ws s2 ⟨zs, H2, I2, rz, hl, q2⟩ => ⟨I2.kIn, ?_⟩) hpl
  rw [hks]
  exact run_k0 F (hr.mono hk) b I2 rz hl q2
end RS

/-! ExcV: exceptions of own and built-in classes as values: isinstance, fields, ValueError(..). -/
namespace RS
open PySem PySem.Spec PyProof.Rows L2

/-- what an own exception class must say, that isinstance and fields of its instances go -/
structure ExK (K : PySem.W.Frag) (C : Addr) : Prop where
  cl : (PySem.W.clsIn K C).isSome = true
  ga : PySem.W.findIn K (.ref C) "__getattribute__" = some (some (.builtin "BaseException.__getattribute__"))
  gg : PySem.W.findIn K (.ref C) "__getattr__" = some none
  sub : PySem.W.subIn K (.ref C) (.type "BaseException") = some true
  hd : PySem.W.hasDictIn K C = true
  ca : PySem.W.findIn K (.ref C) "__class__" = some (some (.builtin "object.__class__"))
  cg : PySem.W.specialIn K (.builtin "object.__class__") "__get__" = some (some (.builtin "getset_descriptor.__get__"))
  ct : PySem.W.takesIn K (.builtin "object.__class__") = some true
  ob : PySem.W.mroIn K C (.type "object") = some true
/-- at a: an exception value of the class t -/
inductive ExAt (K : PySem.W.Frag) (H : Hp) (a : Addr) : Value → Prop where
  | bare {C : Addr} (k : ExK K C) (h : H a = some (ExO (.ref C) a)) : ExAt K H a (.ref C)
  | dict {C d : Addr} {fs : List (Str × V)} (k : ExK K C) (h : H a = some (exo a C (some d))) (hd : H d = some (exd d fs)) : ExAt K H a (.ref C)
  | ve (h : H a = some (ExO (.type "ValueError") a)) : ExAt K H a (.type "ValueError")
section
variable {X : Cx} {pins : List (Addr × Obj)} {σ : L2.St} {H : Hp} {s : Shared}
theorem exO_at {a : Addr} {cls : Value} (I : Inv X pins σ H s) (h : H a = some (ExO cls a)) : ∃ oe vs, s.heap.get? a = some oe ∧ Zc cls none oe ∧ oe.data = .fields vs := by
  obtain ⟨⟨oe, vs, h1, h2, h3, _⟩, _, _⟩ := I.hok a _ h
  exact ⟨oe, vs, h1, h2, h3⟩
theorem inst_dict {a C d : Addr} {fs : List (Str × V)} (I : Inv X pins σ H s) (h : H a = some (exo a C (some d))) (hd : H d = some (exd d fs)) :
    ∃ (ox od : Obj) (mA : Str → Option Value), PySem.W.InstAt s.heap a ox C (some od) ∧ (∀ n, PySem.W.lookIn n od = some (mA n)) ∧ ∀ f, RelO (fs.lookup f) (mA f) := by
  obtain ⟨t1, ha⟩ := exo_at I.hok h
  obtain ⟨mA, hn, hr⟩ := exd_at I.hok hd
  obtain ⟨od, ho, hl⟩ := lookIn_ns hn
  exact ⟨_, od, mA, ⟨ha, rfl, rfl, ho⟩, hl, hr⟩
theorem kit_ex {a : Addr} {t : Value} (I : Inv X pins σ H s) (e : ExAt X.K H a t) : ∃ P : Heap → Prop, PySem.W.KitX X.K (.ref a) t P ∧ P s.heap := by
  cases e with
  | bare k h =>
    obtain ⟨oe, vs, h1, h2, h3⟩ := exO_at I h
    exact ⟨_, PySem.W.kitx_exc (od := none) k.cl k.ga k.gg k.sub k.ca k.cg k.ct k.ob, ⟨h1, h2.1, by unfold PySem.W.notCls; rw [h3] <;> rfl, by rw [h2.2]; trivial⟩⟩
  | dict k h hd =>
    obtain ⟨ox, od, mA, J, _⟩ := inst_dict I h hd
    exact ⟨_, PySem.W.kitx_exc (od := some od) k.cl k.ga k.gg k.sub k.ca k.cg k.ct k.ob, J⟩
  | ve h =>
    obtain ⟨oe, vs, h1, h2, h3⟩ := exO_at I h
    exact ⟨_, PySem.W.kitx_bexc PySem.F.excAttr_ValueError PySem.F.lkClass_ValueError PySem.F.soClass_ValueError (by decide +kernel), ⟨oe, h1, h2.1⟩⟩
end
/-- isinstance(e, c), e an exception value -/
structure rIsV (K : PySem.W.Frag) (xs : List V) (H : Hp) (Q : VK) : Prop where
  ex : ∃ (a : Addr) (c : V) (t u : Value) (b : Bool), xs = [.ref a, c] ∧ ClsV c u ∧ ExAt K H a t ∧ PySem.W.kitOne K t u = some b ∧ Q (.bl b) H
theorem call_isV {X : Cx} : CallR X (.builtin "isinstance") (rIsV X.K) := by
  intro pins s σ H xs us Q I r h
  obtain ⟨a, c, t, u, b, rfl, k, e, hk, q⟩ := h.ex
  obtain ⟨u1, u2, rfl, r1, r2⟩ := vals2 r
  obtain rfl := k.eq r2
  cases r1
  obtain ⟨P, Z, p⟩ := kit_ex I e
  exact PySem.W.kia_one Z I.kIn p hk (fun z => nomatch z) fun tk => ⟨.bl b, H, I.tok tk, rfl, q⟩
/-- e.f, e an exception value with fields -/
structure rExF (K : PySem.W.Frag) (n : Str) (x : V) (H : Hp) (Q : VK) : Prop where
  ex : ∃ (a C d : Addr) (fs : List (Str × V)) (v : V), x = .ref a ∧ ExK K C ∧ PySem.W.findIn K (.ref C) n = some none ∧ H a = some (exo a C (some d)) ∧ H d = some (exd d fs) ∧ fs.lookup n = some v ∧ Q v H
def tExF (K : PySem.W.Frag) (n : Str) (te : TE) : TE := fun σ H Q => te σ H fun x H1 => rExF K n x H1 Q
theorem pe_exF {X : Cx} {e : Expr} {te : TE} {pos : Pos} {n : Str} (he : PE X e te) (hb : attributeBase e n X.env (eval e X.env) = eval e X.env := by rfl) : PE X (.Attribute e n pos) (tExF X.K n te) := by
  refine ⟨fun pins s σ H Q I h => attr_of hb (thn (he.run pins s σ H _ I h) fun u s1 ⟨x, H1, I1, rx, q⟩ => ?_)⟩
  obtain ⟨a, C, d, fs, v, rfl, k, hno, h1, h2, hl, q⟩ := q.ex
  cases rx
  obtain ⟨ox, od, mA, J, lk, rel⟩ := inst_dict I1 h1 h2
  obtain ⟨u, hu, ru⟩ := RelO.some_of (v := v) (o := mA n) (by rw [← hl]; exact rel n)
  exact HandSPX.exc_get I1.kIn J k.ga k.gg k.sub (PySem.W.findObj_own k.hd hno rfl (by rw [lk, hu])) (handed_of ru) ⟨v, H1, I1.tok _, ru, q⟩
end RS

/-! ExcS: super().__init__(text) in the __init__ of an own exception class over own classes over ValueError. -/
namespace RS
open PySem PySem.Spec PyProof.Rows L2 NdefX

/-- what the written part says, so that super() in C's own __init__ finds ValueError's -/
structure SupOk (P : Program) (K : PySem.W.Frag) (mg : Str → Option Value) (C cc cda : Addr) : Prop where
  code : ∃ (ccl : Value) (cdd : Option Addr) (vs : Array Value) (ccs : Array (Option Value)) (file : Str) (tf : Tok), K.lookup cda = some ⟨ccl, cdd, .fields vs, ccs⟩ ∧ vs[2]? = some (.str file tf) ∧ ((P.main.file : Str) == file) = true
  cell : ∃ (cl : Value) (cld : Option Addr) (csl : Array (Option Value)), K.lookup cc = some ⟨cl, cld, .cell (some (.ref C)), csl⟩
  cls : (PySem.W.clsIn K C).isSome = true
  self : PySem.W.mroIn K C (.ref C) = some true
  sup : mg "super" = none
  top : (P.main.scope.names.lookup ("super" : Str)).isSome = false
  opq : PySem.W.nsIn K cStatics "thirdparty.any" = some none
  ini : PySem.W.ks_superIn K C C "__init__" = some (some (.builtin "ValueError.__init__"))
  sub : PySem.W.subIn K (.ref C) (.type "ValueError") = some true
  oex : OexC K C
section
variable {X : Cx} {pins : List (Addr × Obj)} {σ : L2.St} {H : Hp} {s : Shared}
/-- the method-wrapper of ValueError.__init__ at u, called for the exception at a -/
theorem call_mw {a C u : Addr} {us : List Value} {Q : Value → Shared → Prop} (T : OexC X.K C) (I : Inv X pins σ H s) (e : H a = some (exo a C none)) (hu : s.heap.get? u = some (PySem.W.kxs_mw "ValueError.__init__" a)) (hl : us.length ≤ sizeLine) (h : ∀ s', Inv X pins σ H s' → Q .none s') :
    wpAny (model X.prog X.w) X.A (call (.ref u) us) Q X.xe s := by
  obtain ⟨nm, q, N, bs, bm, sn, sub, ab, col, dd, k0, k1, k2, k3, k5, hC, hbm⟩ := T.cls
  obtain ⟨t1, ho⟩ := exo_at I.hok e
  have hCs := I.kIn _ _ hC
  obtain ⟨hp, g, d, t, os⟩ := s
  refine wpAny_call (codeAny_of_tree ?_)
  show wpAny _ X.A.in1 (callAny (.ref u) ⟨us, []⟩) _ _ _
  simp only [callAny]
  refine wpAny_bind (wpAny_load hu ?_)
  simp only [PySem.W.kxs_mw, show (Value.type "method-wrapper" == Value.type "method" || Value.type "method-wrapper" == Value.type "builtin_function_or_method" || Value.type "method-wrapper" == Value.type "method-wrapper") = true by decide, if_true]
  refine PySem.W.KFB.if_so (by decide) ?_
  refine wpAny_bind (PySem.W.check_bound_init F.excBase_ValueError.toExcCallFacts hCs ho rfl ?_)
  refine wpAny_bind (wpAny_pure (wpAny_pure ?_))
  refine ⟨plainId_quiet F.excBase_ValueError.init.plain _, codeAny_builtin F.excBase_ValueError.initEntry ?_⟩
  refine PySem.W.exc_init_tree (cls := .ref C) (t0 := t1) (dv := none) (c2 := .none) (c3 := .none) (b4 := .bool false) ho hl fun h' k hx _ => ?_
  have J := I.write (t' := t) (x := a) (e := a) (o := exo a C none) (by rw [e]; exact True.intro) (.inl rfl) k ⟨_, hx⟩ (exo_ok hx)
  have eu : upd H a (exo a C none) = H := by
    funext b
    by_cases hb : b = a
    · rw [hb, upd_same, e]
    · rw [upd_ne hb]
  rw [eu] at J
  exact h _ J
/-- super().__init__(text), in the body of such an __init__ -/
theorem wp_super {C cc cda f a : Addr} {body : List Stmt} {oc : Value} {od : Option Addr} {fd : FuncData} {osl : Array (Option Value)} {ar : Arg} {p0 p1 p2 p3 p4 : Pos} {msg : Str} {j : Nat} {pl : Sem Bool} {Q : Value → Shared → Prop} (S : SupOk X.prog X.K X.mg C cc cda)
    (hfn : X.K.lookup f = some ⟨oc, od, .func fd, osl⟩) (hp : (fd.params.posonlyargs ++ fd.params.args).head? = some ar) (har : ar.arg = "self") (e1 : X.env.func = some f) (e2 : X.env.code = .ref cda) (e3 : X.env.cells.lookup ("__class__" : Str) = some cc)
    (hks : X.env.kindOf "super" = some .globalImplicit) (hkc : X.env.kindOf "__class__" = some .free) (hkl : X.env.kindOf "self" = some .local) (N0 : X.N[0]? = some ("self" : Str)) (I : Inv X pins σ H s) (s0 : σ[0]? = some (some (.ref a))) (ha : H a = some (exo a C none))
    (hq : ∀ s', Inv X pins σ H s' → Q .none s')
    (he : eval (.Call (.Attribute (.Call (.Name "super" p0) [] [] p1) "__init__" p2) [.Constant (.str msg) j p3] [] p4) X.env = (do
      let ov ← attributeBase (.Call (.Name "super" p0) [] [] p1) "__init__" X.env (eval (.Call (.Name "super" p0) [] [] p1) X.env)
      standAt p2.atName
      let (f, first) ← holding [ov] (getMethod ov "__init__" pl)
      callWith p4 f first (backTo p4 (starEach [.Constant (.str msg) j p3] X.env)) []) := by rfl) :
    _root_.PySem.wpAt (model X.prog X.w) X.A (.func body X.env) (eval (.Call (.Attribute (.Call (.Name "super" p0) [] [] p1) "__init__" p2) [.Constant (.str msg) j p3] [] p4) X.env) Q X.xe s := by
  refine PySem.ks_wpAt_MethodCall ?_ he
  obtain ⟨ccl, cdd, vs, ccs, file, tf, c1, c2, c3⟩ := S.code
  obtain ⟨cl, cld, csl, k1⟩ := S.cell
  obtain ⟨cd, hcd⟩ := Option.isSome_iff_exists.mp S.cls
  have KX := I.kIn
  have hk : X.env.scope.kind = .function := I.ok.kind
  obtain ⟨oD, hD1, hD2⟩ : ∃ oD, s.heap.get? C = some oD ∧ oD.data = .cls cd := by
    unfold PySem.W.clsIn at hcd
    split at hcd
    · rename_i q
      cases hcd
      exact ⟨_, KX _ _ q, rfl⟩
    · cases hcd
  obtain ⟨mb, nb, hb⟩ := I.mod.blt
  obtain ⟨m, hn, hl⟩ := I.loc
  obtain ⟨u, ru, lk⟩ := hl 0 "self" (.ref a) N0 s0 (.inl hkl)
  obtain rfl : u = Value.ref a := ru
  have hm : m "self" = some (.ref a) := by
    rcases lk with ⟨_, z⟩ | ⟨z, _⟩
    · exact z
    · rcases z with z | z <;> (rw [hkl] at z; cases z)
  have glob : s.heap.Ns X.env.globals X.mg := by rw [I.ok.glob]; exact I.mod.glob.keeps I.bk
  have blts : s.heap.Ns X.env.builtins mb := by rw [I.ok.blt]; exact nb.keeps I.bk
  obtain ⟨t1, hx⟩ := exo_at I.hok ha
  refine PySem.ks_wpAt_super_base hks hkc (by decide) e1 (KX _ _ hfn) rfl hp e2 (KX _ _ c1) rfl c2 c3 S.top ?_
  refine PySem.W.ks_loadName_global hk hks (PySem.Calls.loadGlobal_builtin glob S.sup blts ((hb _ (by decide)).trans (by decide +kernel : bootBuiltins "super" = some (.type "super"))) ⟨rfl, ?_⟩)
  refine wpAny_loadName_free hk hkc e3 ⟨_, KX _ _ k1, rfl⟩ ?_
  rw [har]
  refine wpAny_loadName_local hk hkl hn hm ?_
  refine PySem.ks_wpAny_isType_cls hD1 hD2 ⟨rfl, ?_⟩
  refine PySem.ks_wpAny_call_super hD1 hD2 hx rfl (fun c z => by cases z) (PySem.W.looks_mroIn KX S.self) fun h1 so k1' => ?_
  have I1 := I.kept (t' := s.toks) k1'
  have hx1 := k1' _ _ hx
  have J1 : PySem.W.InstAt h1 a _ C none := ⟨hx1, rfl, rfl, trivial⟩
  have ini := S.ini
  unfold PySem.W.ks_superIn at ini
  rw [hcd] at ini
  refine PySem.W.kxs_getMethod PySem.W.kxs_ValueError so (PySem.W.looks_opaque I1.kIn S.opq) (l₀ := cd.mro) (fun A Q E s k q => wpAny_bind ((PySem.W.looks_clsIn I1.kIn hcd) A _ E s k (wpAny_pure q))) rfl I1.kIn ini (J1.type.andThen (PySem.W.looks_subIn I1.kIn S.sub)) (PySem.W.ks_ne I1.kIn J1 hcd) (by decide) ?_
  have k2 : ∀ b o, h1.get? b = some o → (h1.push (PySem.W.kxs_mw "ValueError.__init__" a)).get? b = some o := fun b o e => Heap.get?_push_of_some _ e
  have I2 := I1.kept (t' := s.toks + 1 + 1) k2
  have hmw : (h1.push (PySem.W.kxs_mw "ValueError.__init__" a)).get? h1.objs.size = some (PySem.W.kxs_mw "ValueError.__init__" a) := Heap.get?_push_at rfl rfl
  refine PySem.W.kxs_callWith (i := "ValueError.__init__") (x := a) rfl (PySem.Calls.evalArgs_plain (PySem.Calls.spliced_cons ?_))
  show wpAny _ _ (eval (.Constant (.str msg) j p3) X.env) _ _ _
  refine PySem.Calls.Constant_str (PySem.Calls.spliced_nil ⟨hmw, ?_⟩)
  exact call_mw S.oex I2 ha hmw (by show 1 ≤ sizeLine; rw [sizeLine_eq]; omega) hq
end
/-- the __init__ of an own exception class as it stands behind the top -/
structure IniAt (P : Program) (K : PySem.W.Frag) (mg : Str → Option Value) (C f cc cda : Addr) (qual : Str) (st : Stmt) (fd : FuncData) : Prop where
  ex : ∃ (oc : Value) (od : Option Addr) (kV doc pm ct : Value) (an : Option Addr) (osl : Array (Option Value)), fd = PySem.W.fnX "__init__" qual (C8.fnArgs st) (C8.fnBody st) (C8.fnScope st) [("__class__", cc)] .none kV doc pm an (.ref cda) ct ∧ K.lookup f = some ⟨oc, od, .func fd, osl⟩
  cd : PySem.W.codeIn K (.ref cda) qual = true
  sup : SupOk P K mg C cc cda
section
variable {P : Program} {w : World} {K : PySem.W.Frag} {mg : Str → Option Value} {base : Heap}
theorem ok_initS {C f cc cda : Addr} {qual : Str} {st : Stmt} {fd : FuncData} {N ps : List Str} {rest : List Stmt} {p0 p1 p2 p3 p4 p5 : Pos} {msg : Str} {j k : Nat} {ar : Arg} {sp : Sp} (I0 : IniAt P K mg C f cc cda qual st fd) (S : NScope N ps ["__class__"] (C8.fnScope st))
    (hbody : C8.fnBody st = .Expr (.Call (.Attribute (.Call (.Name "super" p0) [] [] p1) "__init__" p2) [.Constant (.str msg) j p3] [] p4) p5 :: rest) (hks : (C8.fnScope st).names.lookup ("super" : Str) = some .globalImplicit) (har : ((C8.fnArgs st).posonlyargs ++ (C8.fnArgs st).args).head? = some ar) (hself : ar.arg = "self")
    {pl : Env → Sem Bool} (he : ∀ env : Env, eval (.Call (.Attribute (.Call (.Name "super" p0) [] [] p1) "__init__" p2) [.Constant (.str msg) j p3] [] p4) env = (do
      let ov ← attributeBase (.Call (.Name "super" p0) [] [] p1) "__init__" env (eval (.Call (.Name "super" p0) [] [] p1) env)
      standAt p2.atName
      let (f, first) ← holding [ov] (getMethod ov "__init__" (pl env))
      callWith p4 f first (backTo p4 (starEach [.Constant (.str msg) j p3] env)) []))
    (hsw : ∀ env : Env, swapsWith (.Call (.Attribute (.Call (.Name "super" p0) [] [] p1) "__init__" p2) [.Constant (.str msg) j p3] [] p4) none p5.line env = pure false) (N0 : N[0]? = some ("self" : Str)) (P0 : ("self" : Str) ∈ ps) (len : ∀ vs H Q E, sp vs H Q E → vs.length = ps.length)
    (hb : ∀ (F : NF) (A : Around) (outer : List Env) (s : Shared) (H : Hp) (vs : List V) (Q : VK) (E : XK), F = ⟨"__init__", qual, C8.fnArgs st, C8.fnBody st, C8.fnScope st, [("__class__", cc)], cda⟩ → Room k (A.deeper (envF F f s.heap.objs.size)) → sp vs H Q E →
      ∃ a, vs[0]? = some (.ref a) ∧ H a = some (exo a C none) ∧ ∃ t, PSs (ncx CX0 P w K mg base N F f A outer s H E) rest t ∧ t { nx := fun _ H' => Q .non H', rt := Q } (startF N vs [some (.ref C)]) H) :
    FnOk P w K mg base CX0 (k + 1) f fd ps sp := by
  obtain ⟨oc, od, kV, doc, pm, ct, an, osl, rfl, lk⟩ := I0.ex
  refine ⟨len, fun A outer s H args us vs Q E hr e0 bind r hsp => ?_⟩
  have stays : ∀ b o, base.get? b = some o → s.heap.get? b = some o := fun b o e => (e0.bs b o e).1
  have KX : K.In s.heap := e0.mod.kin.keeps stays
  have hl := len _ _ _ _ hsp
  obtain ⟨cl, cld, csl, k1⟩ := I0.sup.cell
  have ccn : H cc = none := (e0.bs _ _ (e0.mod.kin _ _ k1)).2
  let F : NF := ⟨"__init__", qual, C8.fnArgs st, C8.fnBody st, C8.fnScope st, [("__class__", cc)], cda⟩
  have one : ∀ y c, F.cl.lookup y = some c → y = "__class__" ∧ c = cc := fun y c e => by
    have e : ([("__class__", cc)] : List (Str × Addr)).lookup y = some c := e
    rw [List.lookup_cons] at e
    split at e
    · rename_i h; exact ⟨by simpa using h, (Option.some.inj e).symm⟩
    · cases e
  have CA : CellsAt F.cl ["__class__"] [some (.ref C)] s.heap H := by
    refine ⟨rfl, fun y c e => ?_, fun x y c h1 h2 => (one x c h1).1.trans (one y c h2).1.symm, fun i y e => ?_⟩
    · obtain ⟨_, rfl⟩ := one y c e
      exact ⟨ccn, _, _, KX _ _ k1, rfl⟩
    · match i, e with
      | 0, e =>
        cases e
        refine ⟨cc, by show ([("__class__", cc)] : List (Str × Addr)).lookup ("__class__" : Str) = some cc; simp [List.lookup_cons], fun v ev => ?_⟩
        cases ev
        exact ⟨.ref C, rfl, _, KX _ _ k1, rfl⟩
      | i + 1, e => simp at e
  refine codeAny_call_function hr.depth (KX _ _ lk) rfl S.co S.gen rfl (PySem.W.codeRec_of KX I0.cd) (bind _ _ _ _ ?_)
  refine wpAny_newFunctionEnv S.nocell (fun ⟨n, _⟩ hy => S.par n (List.of_mem_zip hy).1) (fun h₁ hns hsb => ⟨(e0.mod.nolimit.keeps stays).fresh _ hsb, ?_⟩) S.kind
  show codeAny _ _ (.func F.body (envF F f s.heap.objs.size)) _ _
  have kp : ∀ b o, s.heap.get? b = some o → h₁.get? b = some o := fun b o e => hsb.extBut b o (Nat.ne_of_lt (Heap.lt_size e)) (Heap.get?_push_of_some _ e)
  obtain ⟨a, v0, ha, t, ht, hq⟩ := hb F A outer s H vs Q E rfl (hr.deeper _) hsp
  have I : Inv (ncx CX0 P w K mg base N F f A outer s H E) [] (startF N vs [some (.ref C)]) H { s with heap := h₁, toks := s.toks + (ps.zip us).length } := inv_startN S hr.hd e0 hl r CA hns kp
  have s0 : (startF N vs [some (.ref C)])[0]? = some (some (.ref a)) := by
    match vs, v0 with
    | v :: vs, e => cases e; rfl
  refine PySem.ks_codeAny_funcAt ?_
  rw [show execs F.body (envF F f s.heap.objs.size) = execs (.Expr (.Call (.Attribute (.Call (.Name "super" p0) [] [] p1) "__init__" p2) [.Constant (.str msg) j p3] [] p4) p5 :: rest) (envF F f s.heap.objs.size) from congrArg (fun b => execs b _) hbody]
  refine PySem.ks_wpAt_execs_cons (PySem.ks_wpAt_Expr_any (wp_super (X := ncx CX0 P w K mg base N F f A outer s H E) (body := F.body) I0.sup lk har hself rfl rfl (by show ([("__class__", cc)] : List (Str × Addr)).lookup ("__class__" : Str) = some cc; simp [List.lookup_cons]) hks (S.frk _ (by simp)) (S.par _ P0) N0 I s0 ha (fun s' J => ?_) (he _)) (by unfold interactive; show _ = false; rw [show (envF F f s.heap.objs.size).scope.kind = .function from S.kind]; rfl) (hsw _))
  refine wpAt_of_wpAny (wpAny_mono (ht.run [] s' _ H _ J hq) (fun fl s2 hs => ?_) fun e s2 hs => hs)
  have fin : ∀ {σ' : L2.St} {H' : Hp} {v : V} {u : Value}, Inv (ncx CX0 P w K mg base N F f A outer s H E) [] σ' H' s2 → L2.RelV v u → Q v H' → CE outer P w H s Q u s2 :=
    fun {σ' H' v u} J rv q => ⟨v, H', J.os, J.bare, J.base, J.hok, rv, q⟩
  cases fl with
  | ret u =>
    obtain ⟨v, σ', H', J, rv, q⟩ := hs
    exact fin J rv q
  | next =>
    obtain ⟨σ', H', J, q⟩ := hs
    exact fin (v := V.non) (u := Value.none) J rfl q
  | brk => exact (hs.elim fun _ z => z.elim fun _ z => z.2.elim)
  | cont => exact (hs.elim fun _ z => z.elim fun _ z => z.2.elim)
end
end RS

/-! ExcKw: an own exception class called with keywords too. -/
namespace RS
open PySem PySem.Spec
section
variable {M : Model} {A : Around} {E : Value → Shared → Prop} {h : Heap} {g : Array GenState} {d : Drawn} {t : Nat} {os : OsState}
variable {nm q : Str} {C N : Addr} {bs bm bmB : List Value} {hdct : Bool} {sn : List Str} {sub : List Value} {ab : Bool} {col : Option Bool} {dd : Option Addr} {k0 k1 k2 k3 k5 : Option Value} {B newId initId : String}
theorem checkKw (F : ExcBaseFacts B newId initId bmB) (hT : ∀ X : String, bm.contains (.type X) = bmB.contains (.type X)) {rest : List Value} {kw : List (Str × Value)} {Q : Unit → Shared → Prop}
    (hC : h.get? C = some (excClassObj nm q C N bs bm hdct sn sub ab col dd k0 k1 k2 k3 k5 newId)) (hq : Q () ⟨h, g, d, t, os⟩) : wpAny M A (checkBuiltinCall newId ⟨.ref C :: rest, kw⟩) Q E ⟨h, g, d, t, os⟩ := by
  have inB : (Value.ref C :: bm).contains (.type B) = true := by rw [List.contains_cons, hT, F.hasB, Bool.or_true]
  have st := F.noStar
  unfold checkBuiltinCall
  simp only [F.newKind, F.newSplit, F.newRow]
  repeat (first | refine wpAny_loadPart_at hC ?_ | (refine wpAny_isSubtype_exc hC ?_; rw [inB]) | refine wpAny_staticBase_exc hC ?_ | refine wpAny_madeBy_exc hC ?_ | simp only [bne_self_eq_false, Bool.false_eq_true, if_false] | wp_step)
  exact hq
end
section
variable {prog : Program} {w : World} {A : Around} {E : Value → Shared → Prop} {R : Result → Shared → Prop} {h : Heap} {g : Array GenState} {d : Drawn} {t : Nat} {os : OsState}
variable {nm q : Str} {C N : Addr} {bs bm bmB : List Value} {hdct : Bool} {sn : List Str} {sub : List Value} {ab : Bool} {col : Option Bool} {dd : Option Addr} {k0 k1 k2 k3 k5 : Option Value} {B newId initId : String}
theorem newKw (F : ExcBaseFacts B newId initId bmB) (hT : ∀ X : String, bm.contains (.type X) = bmB.contains (.type X)) {rest : List Value} {kw : List (Str × Value)} (hC : h.get? C = some (excClassObj nm q C N bs bm hdct sn sub ab col dd k0 k1 k2 k3 k5 newId))
    (hq : R (.ok (.ret (.ref (h.objs.size + 1)))) ⟨(h.push (PySem.W.kdv_tup rest)).push (PySem.HandSPX.excO C h.objs.size), g, d, t, os⟩) (hrest : rest.length ≤ sizeLine) : codeAny (model prog w) A (.builtin newId ⟨.ref C :: rest, kw⟩) R ⟨h, g, d, t, os⟩ := by
  have en := F.ends
  have inB : (Value.ref C :: bm).contains (.type B) = true := by rw [List.contains_cons, hT, F.hasB, Bool.or_true]
  have noA : (Value.ref C :: bm).contains (.type "AttributeError") = false := by rw [List.contains_cons, hT, F.noAttr]; rfl
  have noN : (Value.ref C :: bm).contains (.type "NameError") = false := by rw [List.contains_cons, hT, F.noName]; rfl
  refine codeAny_builtinAt F.entry (show wpAt _ _ _ (Builtin.«BaseException.__new__» _) _ _ _ from ?_)
  unfold Builtin.«BaseException.__new__»
  refine wpAt_bind (show wpAt _ _ _ (stack >>= _) _ _ _ from wpAt_bind (wpAt_stack fun p below => wpAt_of_wpAny ?_))
  wp_walk
  refine wpAt_of_wpAny ?_
  rw [F.owner]
  repeat (first | with_reducible refine wpAny_madeHere_exc F.canon hC ?_ | with_reducible refine wpAny_loadPart_at hC ?_ | (with_reducible refine wpAny_isSubtype_exc hC ?_; first | rw [inB] | rw [noA] | rw [noN]) | wp_step)
  show R _ _
  rw [Heap.size_push]
  exact hq
theorem typeCallKw (F : ExcBaseFacts B newId initId bmB) (hT : ∀ X : String, bm.contains (.type X) = bmB.contains (.type X)) {rest : List Value} {kw : List (Str × Value)} {fI : Addr} {Q : Fin → Shared → Prop} (hC : h.get? C = some (excClassObj nm q C N bs bm hdct sn sub ab col dd k0 k1 k2 k3 k5 newId))
    (ini : PySem.W.Looks (model prog w) h (typeLookup (.ref C) "__init__") (some (.ref fI))) (bnd : ∀ self, PySem.W.Looks (model prog w) h (bindSpecial (.ref fI) self) (.ref fI, [self])) (hrest : rest.length ≤ sizeLine)
    (hq : codeAny (model prog w) A (.call (.ref fI) ⟨.ref (h.objs.size + 1) :: rest, kw⟩) (fun r s' => match r with | .ok (.ret v) => v = .none ∧ Q (.done (.ret (.ref (h.objs.size + 1)))) s' | .ok _ => False | .error e => E e s') ⟨(h.push (PySem.W.kdv_tup rest)).push (PySem.HandSPX.excO C h.objs.size), g, d, t, os⟩) :
    wpAny (model prog w) A (Builtin.«type.__call__» ⟨.ref C :: rest, kw⟩) Q E ⟨h, g, d, t, os⟩ := by
  repeat (first | with_reducible refine wpAny_loadPart_at hC ?_ | with_reducible refine wpAny_madeBy_exc hC ?_ | wp_step)
  refine codeAny_call_builtin_code (Code.quiet_builtin _ F.quiet) (checkKw F hT hC (newKw F hT hC (show wpAny _ _ _ _ _ _ from ?_) hrest))
  have up : ∀ b o, h.get? b = some o → ((h.push (PySem.W.kdv_tup rest)).push (PySem.HandSPX.excO C h.objs.size)).get? b = some o := fun b o e => Heap.get?_push_of_some _ (Heap.get?_push_of_some _ e)
  have C1 := up _ _ hC
  have e1 : ((h.push (PySem.W.kdv_tup rest)).push (PySem.HandSPX.excO C h.objs.size)).get? (h.objs.size + 1) = some (PySem.HandSPX.excO C h.objs.size) := by heap_get
  have inC : (Value.ref C :: bm).contains (.ref C) = true := by simp
  unfold isInstance
  repeat (first | with_reducible refine wpAny_loadPart_at e1 ?_ | (with_reducible refine wpAny_isSubtype_exc C1 ?_; rw [inC]) | wp_step)
  show wpAny _ _ (typeLookup (.ref C) _) _ _ _
  refine (ini.keeps up).at (wpAny_holding (wpAny_bind (((bnd (.ref (h.objs.size + 1))).keeps up).at (wpAny_bind (wpAny_call (codeAny_mono hq fun r s' z => ?_))))))
  rcases r with e | (v | _ | _ | _) <;> first | exact z | exact z.elim | skip
  obtain ⟨rfl, z⟩ := z
  first | exact wpAny_pure (wpAny_pure z) | (wp_walk; exact z)
theorem callKw (F : ExcBaseFacts B newId initId bmB) (hT : ∀ X : String, bm.contains (.type X) = bmB.contains (.type X)) {rest : List Value} {kw : List (Str × Value)} {fI : Addr} (hC : h.get? C = some (excClassObj nm q C N bs bm hdct sn sub ab col dd k0 k1 k2 k3 k5 newId))
    (ini : PySem.W.Looks (model prog w) h (typeLookup (.ref C) "__init__") (some (.ref fI))) (bnd : ∀ self, PySem.W.Looks (model prog w) h (bindSpecial (.ref fI) self) (.ref fI, [self])) (hrest : rest.length ≤ sizeLine)
    (hq : codeAny (model prog w) (A.under (.builtin "type.__call__" ⟨.ref C :: rest, kw⟩)) (.call (.ref fI) ⟨.ref (h.objs.size + 1) :: rest, kw⟩) (PySem.W.InitBack (h.objs.size + 1) R) ⟨(h.push (PySem.W.kdv_tup rest)).push (PySem.HandSPX.excO C h.objs.size), g, d, t, os⟩) :
    codeAny (model prog w) A (.call (.ref C) ⟨rest, kw⟩) R ⟨h, g, d, t, os⟩ := by
  have lk := tc_lookup
  have bd := tc_bind (.ref C)
  have ty : (⟨h, g, d, t, os⟩ : Shared).TypeIs (.ref C) "type" := ⟨_, hC, rfl⟩
  refine codeAny_of_tree (show wpAny _ _ (callAny (.ref C) _) _ _ _ from ?_)
  repeat (any_goals (first | assumption | with_reducible refine wpAny_loadPart_at hC ?_ | wp_step))
  refine ⟨rfl, codeAny_call_builtin_at (Code.quiet_builtin _ (by decide +kernel)) entry_typeCall (wpAny_check_type_call_sub hC (typeCallKw F hT hC ini bnd hrest (codeAny_mono hq fun r s' z => ?_)))⟩
  rcases r with e | (v | _ | _ | _) <;> exact z
end
end RS

/-! ExcMk: C(e, ..), C(f=e, ..) as values, C an own exception class with its own __init__. -/
namespace RS
open PySem PySem.Spec PyProof.Rows L2

/-- an own exception class with an own __init__ -/
structure MkX (P : Program) (w : World) (K : PySem.W.Frag) (mg : Str → Option Value) (base : Heap) (x : Str) (C : Addr) (k : Nat) (ps : List Str) (sp : Sp) (ks : List Str) (π : List Nat) : Prop where
  oex : OexC K C
  ex : ∃ fI fd, PySem.W.findIn K (.ref C) "__init__" = some (some (.ref fI)) ∧ PySem.W.typeIn K (.ref fI) = some (.type "function") ∧ FnOk P w K mg base CX0 k fI fd ps sp ∧ Binds K fd ps [] ∧
    (∀ (s : Shared) (e : Value) (ws : List Value), K.In s.heap → ws.length = ks.length → BindsTo s fd ⟨[e], ks.zip ws⟩ (ps.zip (e :: permL π ws)))
  mgx : mg x = some (.ref C)
def tMkV (C : Addr) (sp : Sp) (ta : TA) : TE := fun σ H Q => ta σ H fun vs H1 => vs.length ≤ 1000 ∧ ∀ a, H1 a = none → sp (.ref a :: vs) (upd H1 a (exo a C none)) (fun v H2 => v = .non ∧ Q (.ref a) H2) E0
def tMkK (C : Addr) (sp : Sp) (ks : List Str) (π : List Nat) (tk : TA) : TE := fun σ H Q => tk σ H fun zs H1 => zs.length = ks.length ∧ ∀ a, H1 a = none → sp (.ref a :: permL π zs) (upd H1 a (exo a C none)) (fun v H2 => v = .non ∧ Q (.ref a) H2) E0
section
variable {X : Cx} {pins : List (Addr × Obj)} {σ : L2.St} {H : Hp} {s : Shared}
theorem mk_run {x : Str} {C : Addr} {k : Nat} {ps ks : List Str} {sp : Sp} {π : List Nat} {us ns : List Value} {vs : List V} {kw : List (Str × Value)} {Q : VK} (M : MkX X.prog X.w X.K X.mg X.base x C k ps sp ks π) (hr : Room (k + 1) X.A) (I : Inv X pins σ H s) (hus : us.length ≤ 1000)
    (bind : ∀ (fd : FuncData), Binds X.K fd ps [] → (∀ (s : Shared) (e : Value) (ws : List Value), X.K.In s.heap → ws.length = ks.length → BindsTo s fd ⟨[e], ks.zip ws⟩ (ps.zip (e :: permL π ws))) → ∀ (s : Shared) (e : Value), X.K.In s.heap → BindsTo s fd ⟨e :: us, kw⟩ (ps.zip (e :: ns)))
    (r : Vals vs ns) (h : ∀ a, H a = none → sp (.ref a :: vs) (upd H a (exo a C none)) (fun v H2 => v = .non ∧ Q (.ref a) H2) E0) : wpAny (model X.prog X.w) X.A (call (.ref C) us kw) (EP X pins σ Q) X.xe s := by
  obtain ⟨fI, fd, iC, tI, F1, hb, hbk⟩ := M.ex
  obtain ⟨nm, q, N, bs, bm, sn, sub, ab, col, dd, k0, k1, k2, k3, k5, hC, hbm⟩ := M.oex.cls
  have KX := I.kIn
  have b := bind fd hb hbk
  obtain ⟨hp, g, dr, tk, os⟩ := s
  have hsz : hp.objs.size ≤ hp.objs.size + 1 := Nat.le_succ _
  have hn : H (hp.objs.size + 1) = none := I.hok.fresh hsz
  have up : ∀ b o, hp.get? b = some o → ((hp.push (PySem.W.kdv_tup us)).push (PySem.HandSPX.excO C hp.objs.size)).get? b = some o := fun b o e => Heap.get?_push_of_some _ (Heap.get?_push_of_some _ e)
  have e1 : ((hp.push (PySem.W.kdv_tup us)).push (PySem.HandSPX.excO C hp.objs.size)).get? (hp.objs.size + 1) = some (PySem.HandSPX.excO C hp.objs.size) := by heap_get
  have I2 : Inv X pins σ (upd H (hp.objs.size + 1) (exo (hp.objs.size + 1) C none)) ⟨(hp.push (PySem.W.kdv_tup us)).push (PySem.HandSPX.excO C hp.objs.size), g, dr, tk, os⟩ := I.laid (t' := tk) up hsz (exo_ok e1)
  refine wpAny_call (callKw F.excBase_ValueError (fun Y => PySem.HandSPX.refsVE_contains Y bm hbm) (KX _ _ hC) (PySem.W.looks_findIn KX iC) (fun self => PySem.W.bind_fn KX self tI) (by rw [sizeLine_eq]; omega)
    (codeAny_mono (F1.run _ X.stack _ _ ⟨Value.ref (hp.objs.size + 1) :: us, kw⟩ (Value.ref (hp.objs.size + 1) :: ns) (V.ref (hp.objs.size + 1) :: vs) _ E0 (hr.make C us kw) (I2.env0.make C us kw) (b _ _ I2.kIn) (.cons rfl r) (h _ hn)) fun r s' z => ?_))
  cases r with
  | error er => exact z.elim
  | ok fl =>
    cases fl with
    | ret u =>
      obtain ⟨v, H2, J, rv, rfl, q⟩ := I2.after z
      exact ⟨rv, .ref (hp.objs.size + 1), H2, J, rfl, q⟩
    | next => exact False.elim z
    | brk => exact False.elim z
    | cont => exact False.elim z
theorem pe_mkV {x : Str} {C : Addr} {j k : Nat} {ps ks : List Str} {sp : Sp} {π : List Nat} {e : Expr} {es : List Expr} {ta : TA} {p pos : Pos} (M : MkX X.prog X.w X.K X.mg X.base x C j ps sp ks π) (hr : Room k X.A) (hk : j + 1 ≤ k) (ha : PA X (e :: es) ta) (hg : Gl X x := by rfl)
    (hdb : (x == ("__debug__" : Str)) = false := by decide) (he : starEach (e :: es) X.env = (false, eval e X.env) :: starEach es X.env := by rfl) (hpl : (backTo pos (starEach es X.env)).any (·.1) = false := by rfl) :
    PE X (.Call (.Name x p) (e :: es) [] pos) (tMkV C sp ta) := by
  refine ⟨fun pins s σ H Q I h => wpAny_Call_Name_kw (ld_glob I hg M.mgx ?_ hdb)⟩
  refine PySem.W.callWith_K (h₀ := X.base) I.ok.mod.kin M.oex.kC (thn (ha.run pos pins s σ H _ I h) fun us s1 ⟨vs, H1, I1, r, hl, q⟩ => ⟨I1.kIn, ?_⟩) he hpl
  obtain ⟨_, _, _, _, F1, _⟩ := M.ex
  show wpAny _ _ (call (.ref C) us) _ _ _
  refine mk_run M (hr.mono hk) I1 (by rw [← r.length]; exact hl) (fun fd b _ s e hK => ?_) r q
  have n := F1.len _ _ _ _ (q _ (I1.hok.fresh (Nat.le_refl _)))
  have := b s (e :: us) hK (by rw [List.append_nil, List.length_cons, ← r.length]; exact n)
  rw [List.append_nil] at this
  exact this
theorem pe_mkK {x : Str} {C : Addr} {j k : Nat} {ps ks : List Str} {sp : Sp} {π : List Nat} {kws : List Keyword} {tk : TA} {p pos : Pos} (M : MkX X.prog X.w X.K X.mg X.base x C j ps sp ks π) (hr : Room k X.A) (hk : j + 1 ≤ k) (hkw : PK X kws tk) (hg : Gl X x := by rfl)
    (hall : (backToKw pos (keywordEach kws X.env)).all (·.1.isSome) = true := by rfl) (hks : (backToKw pos (keywordEach kws X.env)).filterMap (·.1) = ks := by rfl) (hdb : (x == ("__debug__" : Str)) = false := by decide)
    (hpl : ((backTo pos (starEach [] X.env)).any (·.1) || (backToKw pos (keywordEach kws X.env)).any (·.1.isNone)) = false := by rfl) :
    PE X (.Call (.Name x p) [] kws pos) (tMkK C sp ks π tk) := by
  refine ⟨fun pins s σ H Q I h => wpAny_Call_Name_kw (ld_glob I hg M.mgx ?_ hdb)⟩
  refine PySem.W.callWith_KW0 (h₀ := X.base) I.ok.mod.kin M.oex.kC hall (thn (hkw.run pos pins s σ H _ I h) fun ws s1 ⟨zs, H1, I1, rz, hl, q⟩ => ⟨I1.kIn, ?_⟩) hpl
  rw [hks]
  exact mk_run M (hr.mono hk) I1 (Nat.zero_le _) (fun fd _ b s e hK => b s e ws hK (by rw [← rz.length]; exact hl)) (vals_perm rz π) q
end
end RS

/-! ExcVe: ValueError(e) as a value. -/
namespace RS
open PySem PySem.Spec PyProof.Rows L2
section
variable {X : Cx}
theorem pe_veV {e : Expr} {ta : TE} {p pos : Pos} (hm : X.mg "ValueError" = none) (ha : PE X e ta) (hg : Gl X "ValueError" := by rfl)
    (he : starEach [e] X.env = (false, eval e X.env) :: starEach [] X.env := by rfl) (hpl : (backTo pos (starEach [] X.env)).any (·.1) = false := by rfl) :
    PE X (.Call (.Name "ValueError" p) [e] [] pos) (fun σ H Q => ta σ H fun _ H1 => ∀ a, H1 a = none → Q (.ref a) (upd H1 a (ExO (.type "ValueError") a))) := by
  refine ⟨fun pins s σ H Q I h => ?_⟩
  refine wpAny_Call_Name_kw (ld_blt I hg hm PyProof.Rows.Boot.«ValueError» ?_ (by decide) (by decide))
  refine PyProof.Rows.callWith_type1 (Q := EP X pins σ Q) ?_ he hpl
  rw [he]
  show wpAny _ _ (spliced ((false, eval e X.env) :: backTo pos (starEach [] X.env))) _ _ s
  refine Calls.spliced_cons (thn (ha.run pins s σ H _ I h) fun u s1 ⟨v, H1, I1, r1, q1⟩ => ?_)
  refine Calls.spliced_nil ?_
  obtain ⟨hp1, g1, d1, tk1, os1⟩ := s1
  refine wpAny_call_exc exb_ValueError.call (fun h' a mk => ?_) (by show 1 ≤ sizeLine; rw [sizeLine_eq]; omega)
  have hn : H1 a = none := I1.hok.gone mk.new
  obtain ⟨t, ht, _, _⟩ := mk.there
  exact ⟨.ref a, upd H1 a (ExO (.type "ValueError") a), I1.laidN mk.keeps mk.new hn (exO_ok ht ⟨rfl, rfl⟩ rfl rfl rfl (show 4 < 6 by decide)), rfl, q1 a hn⟩
theorem pe_exFK {K : PySem.W.Frag} (hK : X.K = K) {e : Expr} {te : TE} {pos : Pos} {n : Str} (he : PE X e te) (hb : attributeBase e n X.env (eval e X.env) = eval e X.env := by rfl) : PE X (.Attribute e n pos) (tExF K n te) := hK ▸ pe_exF he hb
end
end RS

/-! RSLaw: a def that is called where no repr is under way; the law's own call. -/
namespace RS
open PySem PySem.Spec PyProof.Rows L2

/-- a def's promise where no guarded call is under way -/
structure FnG (P : Program) (w : World) (K : PySem.W.Frag) (mg : Str → Option Value) (base : Heap) (k : Nat) (f : Addr) (fd : FuncData) (ps : List Str) (sp : Sp) : Prop where
  len : ∀ vs H Q E, sp vs H Q E → vs.length = ps.length
  run : ∀ (A : Around) (outer : List Env) (s : Shared) (H : Hp) (args : Args) (us : List Value) (vs : List V) (Q : VK) (E : XK), AG A → Room k A → Env0 P w K mg base A outer s H → BindsTo s fd args (ps.zip us) → Vals vs us → sp vs H Q E →
    codeAny (model P w) A (.call (.ref f) args) (CR CX0 outer P w H s Q E) s
theorem okG {P : Program} {w : World} {K : PySem.W.Frag} {mg : Str → Option Value} {base : Heap} {x qual : Str} {st : Stmt} {f : Addr} {fd : FuncData} {N ps : List Str} {k : Nat} {sp : Sp} (F : Fun K x qual st f fd) (S : FnScope N ps (defScope st)) (len : ∀ vs H Q E, sp vs H Q E → vs.length = ps.length)
    (body : ∀ (cdv : Value) (A : Around) (outer : List Env) (s : Shared) (H : Hp) (vs : List V) (Q : VK) (E : XK), AG (A.deeper (envOfC qual (defScope st) s.heap.objs.size f cdv)) → Room k (A.deeper (envOfC qual (defScope st) s.heap.objs.size f cdv)) → sp vs H Q E →
      ∃ t, PSs (cxOf CX0 P w K mg base N qual (defScope st) f cdv A outer s H E).nox (defBody st) t ∧ t { nx := fun _ H' => Q .non H', rt := Q } (start N vs) H) : FnG P w K mg base (k + 1) f fd ps sp := by
  obtain ⟨oc, od, kV, doc, pm, an, cdv, ct, osl, rfl, lk, hcd⟩ := F.ex
  refine ⟨len, fun A outer s H args us vs Q E hg hr e0 hb r q => ?_⟩
  have hlen := len _ _ _ _ q
  have keep : ∀ b o, base.get? b = some o → s.heap.get? b = some o := fun b o e => (e0.bs b o e).1
  have kin : K.In s.heap := e0.mod.kin.keeps keep
  have kinds : ∀ y ∈ ps.zip us, (defScope st).names.lookup y.1 = some .local ∨ ((defScope st).names.lookup y.1 = some .cell ∧ ((cellsFrom (s.heap.objs.size + 1) (defScope st).names []).lookup y.1).isSome = true) := by
    rintro ⟨n, v⟩ hy
    exact (S.par n (List.of_mem_zip hy).1).imp id fun z => ⟨z, PySem.W.cellsFrom_some _ _ _ (.inl z)⟩
  refine codeAny_call_function hr.depth (kin _ _ lk) rfl S.co S.gen rfl (PySem.W.codeRec_of kin hcd) (hb _ _ _ _ (wpAny_newFunctionEnv_cells S.kind kinds fun env he s1 ic => ?_))
  subst he
  obtain ⟨t, ht, hq⟩ := body cdv A outer s H vs Q E hg (hr.deeper _) q
  refine ⟨(e0.mod.nolimit.keeps keep).keeps ic.toInCall.keep, codeAny_func (wpAny_mono (ht.nox.run [] s1 _ H _ (inv_start S hr.hd e0 hlen r ic) hq) (fun fl s' z => ?_) fun e s' z => z)⟩
  cases fl with
  | ret u => obtain ⟨v, σ', H', J, rv, q'⟩ := z; exact ⟨v, H', J.os, J.bare, J.base, J.hok, rv, q'⟩
  | next => obtain ⟨σ', H', J, q'⟩ := z; exact ⟨.non, H', J.os, J.bare, J.base, J.hok, rfl, q'⟩
  | brk => exact (z.elim fun _ z => z.elim fun _ z => z.2.elim)
  | cont => exact (z.elim fun _ z => z.elim fun _ z => z.2.elim)
/-- the script as the law's call finds it: locked, or an object of the module -/
def scriptH (K : PySem.W.Frag) (a : Addr) (vs : List Value) (ns : List Int) : Hp := fun b => if b = a ∧ K.lookup a = none then some (.frz { cls := .type "list", data := .seq vs.toArray } (.lst (ns.map V.int))) else none
theorem law_goes {P : Program} {w : World} {K : PySem.W.Frag} {mg mb : Str → Option Value} {k : Nat} {fa a : Addr} {fd : FuncData} {x : Str} {sp : Sp} {s1 : Shared} {vs : List Value} {ns : List Int} (kin : K.In s1.heap) (gl : s1.heap.Ns mainGlobals mg) (bl : s1.heap.Ns builtinsNs mb)
    (blt : ∀ x : Str, x ≠ "__name__" → mb x = bootBuiltins x) (lim : s1.heap.NoLimit) (gens : s1.gens = #[]) (ha : s1.heap.get? a = some { cls := .type "list", data := .seq vs.toArray }) (hi : IntsAre vs ns) (hl : ns.length ≤ sizeLine) (hr : Room k callerA)
    (F : ∀ base : Heap, K.In base → base.Ns mainGlobals mg → FnG P w K mg base k fa fd [x] sp) (bind : ∀ (s : Shared) (u : Value), BindsTo s fd ⟨[u], []⟩ [(x, u)])
    (hsp : ∀ H : Hp, SqL K H a (ns.map V.int) → sp [.ref a] H (fun v _ => v = .bl true) fun _ _ _ => False) :
    codeAny (model P w) callerA (.call (.ref fa) ⟨[.ref a], []⟩) (fun r s' => r = .ok (.ret (.bool true)) ∧ OldK s1.heap s'.heap ∧ s'.os = s1.os ∧ AllBare s'.gens) s1 := by
  have rv := vals_ints hi
  have only : ∀ b u, scriptH K a vs ns b = some u → b = a ∧ K.lookup a = none ∧ u = .frz { cls := .type "list", data := .seq vs.toArray } (.lst (ns.map V.int)) := fun b u e => by
    unfold scriptH at e
    split at e
    · rename_i h; exact ⟨h.1, h.2, (Option.some.inj e).symm⟩
    · cases e
  have frees : ∀ b, (scriptH K a vs ns b ≠ none → b = a) := fun b z => by
    cases e : scriptH K a vs ns b with
    | none => exact absurd e z
    | some u => exact (only b u e).1
  have hok : HOk P w (scriptH K a vs ns) s1.heap := fun b u e => by
    obtain ⟨rfl, _, rfl⟩ := only b u e
    exact ⟨ha, by rw [List.length_map]; exact hl, vs, _, rv, ha⟩
  have sq : SqL K (scriptH K a vs ns) a (ns.map V.int) := by
    cases e : K.lookup a with
    | none => exact .inl (.inr ⟨_, if_pos ⟨rfl, e⟩⟩)
    | some o =>
      have e' := kin a o e
      rw [ha] at e'
      cases e'
      exact .inr ⟨_, vs.toArray, _, e, rfl, rfl, rfl, by rw [List.size_toArray, hi.length]; exact hl, by simpa using rv⟩
  -- what is a dict, what the written part knows, is not tracked
  have untr : ∀ {b : Addr} {o : Obj}, s1.heap.get? b = some o → (∀ xs n, o.data ≠ .seq xs n) → scriptH K a vs ns b = none := fun {b o} e d => by
    cases q : scriptH K a vs ns b with
    | none => rfl
    | some u =>
      obtain ⟨rfl, _, _⟩ := only b u q
      rw [ha] at e; cases e
      exact absurd rfl (d _ _)
  have nsB : ∀ {b : Addr} {m : Str → Option Value}, s1.heap.Ns b m → (hidT s1.heap (scriptH K a vs ns)).Ns b m := fun {b m} ⟨o, es, ep, e, d, r⟩ => ⟨o, es, ep, hidT_get e (untr e fun xs n z => by rw [d] at z; cases z), d, r⟩
  have kinB : K.In (hidT s1.heap (scriptH K a vs ns)) := fun b o e => hidT_get (kin b o e) (by
    cases q : scriptH K a vs ns b with
    | none => rfl
    | some u =>
      obtain ⟨rfl, z, _⟩ := only b u q
      rw [z] at e; cases e)
  have e0 : Env0 P w K mg (hidT s1.heap (scriptH K a vs ns)) callerA [] s1 (scriptH K a vs ns) := by
    refine ⟨rfl, ⟨kinB, nsB gl, ⟨mb, nsB bl, blt⟩, ?_⟩, fun b o e => of_hidT e, Nat.le_of_eq (hidT_size _ _), trivial, (fun b z => nomatch z), hok, .of_eq gens⟩
    obtain ⟨mc, q1, q2⟩ := lim
    exact ⟨mc, nsB q1, q2⟩
  refine codeAny_mono ((F _ kinB (nsB gl)).run callerA [] s1 _ ⟨[.ref a], []⟩ [.ref a] [.ref a] _ _ rfl hr e0 (bind s1 (.ref a)) (.cons rfl .nil) (hsp _ sq)) fun r s' z => ?_
  match r, z with
  | .ok (.ret u), ⟨v, H', os, bare, un, hok', r', q⟩ =>
    obtain rfl : v = .bl true := q
    obtain rfl : u = Value.bool true := r'
    refine ⟨rfl, OldK.of_keep fun b o e => ?_, os, bare⟩
    cases q : scriptH K a vs ns b with
    | none => exact un.keep b o e q (fun z => nomatch z) (fun z => nomatch z)
    | some u =>
      obtain ⟨rfl, _, rfl⟩ := only b u q
      obtain ⟨t1, _⟩ := hok b _ q
      obtain ⟨t2, _⟩ := hok' b _ (un.frzs b _ _ q)
      rw [e] at t1; cases t1
      exact t2
/-- the goal behind the head, from the law's promise -/
theorem walkG {l : PySem.W.OpenLaw} {n k : Nat} {q : Program} {loose : List Str} {XP : (Str → Option Value) → Heap → Prop} {YP : World → Heap → Prop} {d : DefRec} {K : Params → PySem.W.Frag} {sp : World → Sp} {x : Str} (hn : l.most = some n) (hn2 : n ≤ sizeLine) (hdf : d.params.defaults = []) (hr : Room k callerA)
    (hY : ∀ (w : World) (h : Heap), YP w h → (K w.params).In h)
    (F : ∀ (w : World) (mg : Str → Option Value) (fa : Addr) (h : Heap), (K w.params).In h → h.Ns mainGlobals mg → mg d.name = some (.ref fa) →
      ∃ fd : FuncData, (∀ (s : Shared) (u : Value), BindsTo s fd ⟨[u], []⟩ [(x, u)]) ∧ ∀ base : Heap, (K w.params).In base → base.Ns mainGlobals mg → FnG l.prog w (K w.params) mg base k fa fd [x] (sp w))
    (hsp : ∀ (w : World) (H : Hp) (a : Addr) (ns : List Int), ns.length ≤ n → (∀ z ∈ ns, Builtin.Int.intBits z ≤ 1048576) → SqL (K w.params) H a (ns.map V.int) → sp w [.ref a] H (fun v _ => v = .bl true) fun _ _ _ => False) :
    PySem.W.WalkO q loose XP YP l.row.toRowW d [] (fun f vs => PySem.call f vs) := by
  refine Att.attach_callB hn hdf fun w s0 s1 mg mb fa o pm cd doc a vs ns G Y ho hd hcd hmg ha hi hlen hbits hg => ?_
  obtain ⟨fd, hb, hF⟩ := F w mg fa _ (hY w _ Y) G.T.g hmg
  exact law_goes (hY w _ Y) G.T.g G.T.b G.T.builtins G.T.nolimit hg ha hi (Nat.le_trans hlen hn2) hr hF hb fun H hS => hsp w H a ns hlen hbits hS
end RS

/-! RSTab: the law's own call where defs make nested functions: their tables of code objects, empty at the start, are tracked. -/
namespace RS
open PySem PySem.Spec PyProof.Rows L2 LamX NdefX

abbrev emptyT : Obj := { cls := .none, data := .fields #[] }
section
variable {K : PySem.W.Frag}
theorem less_hd {h : Heap} {c P : Addr} {o : Obj} (X : K.In h) (ho : K.lookup c = some o) (hd : PySem.W.codeHdIn [(c, o)] c P = true) : PySem.W.CodeHd h c P := by
  have e : PySem.W.codeHdIn K c P = true := by
    unfold PySem.W.codeHdIn at hd ⊢
    rw [ho]
    have : ([(c, o)] : PySem.W.Frag).lookup c = some o := by simp [List.lookup_cons]
    rw [this] at hd
    exact hd
  exact PySem.W.codeHd_of_K X e
/-- the values of a code object -/
def obVs (o : Obj) : Array Value := match o.data with
  | .fields vs => vs
  | _ => #[]
end
/-- what is tracked as the law begins: its script where the module has not written it, the tables -/
def beginH (K : PySem.W.Frag) (a : Addr) (vs : List Value) (ns : List Int) (ts : List Addr) : Hp := fun b =>
  if b = a ∧ K.lookup a = none then some (.frz { cls := .type "list", data := .seq vs.toArray } (.lst (ns.map V.int))) else if b ∈ ts then some (.tbl #[]) else none
theorem law_goesT {P : Program} {w : World} {K : PySem.W.Frag} {mg mb : Str → Option Value} {k : Nat} {fa a : Addr} {cs : List (Addr × Addr)} {fd : FuncData} {x : Str} {sp : Sp} {s1 : Shared} {vs : List Value} {ns : List Int} (kin : K.In s1.heap) (gl : s1.heap.Ns mainGlobals mg) (bl : s1.heap.Ns builtinsNs mb)
    (blt : ∀ x : Str, x ≠ "__name__" → mb x = bootBuiltins x) (lim : s1.heap.NoLimit) (gens : s1.gens = #[])
    (tabs : ∀ p ∈ cs, s1.heap.get? p.2 = some emptyT) (out : ∀ p ∈ cs, K.lookup p.2 = none) (heads : ∀ p ∈ cs, PySem.W.CodeHd s1.heap p.1 p.2)
    (main : ∃ (bm : Addr) (ob : Obj), mg "__builtins__" = some (.ref bm) ∧ bm ≠ builtinsNs ∧ s1.heap.get? bm = some ob ∧ ob.cls = .type "module" ∧ ob.dict = some builtinsNs ∧ ob.data = .plain)
    (ha : s1.heap.get? a = some { cls := .type "list", data := .seq vs.toArray }) (hi : IntsAre vs ns) (hl : ns.length ≤ sizeLine) (hr : Room k callerA)
    (F : ∀ base : Heap, K.In base → base.Ns mainGlobals mg → (∀ p ∈ cs, TabB base mg p.1 p.2) → FnG P w K mg base k fa fd [x] sp) (bind : ∀ (s : Shared) (u : Value), BindsTo s fd ⟨[u], []⟩ [(x, u)])
    (hsp : ∀ H : Hp, (∀ p ∈ cs, H p.2 = some (.tbl #[])) → SqL K H a (ns.map V.int) → sp [.ref a] H (fun v _ => v = .bl true) fun _ _ _ => False) :
    codeAny (model P w) callerA (.call (.ref fa) ⟨[.ref a], []⟩) (fun r s' => r = .ok (.ret (.bool true)) ∧ OldK s1.heap s'.heap ∧ s'.os = s1.os ∧ AllBare s'.gens) s1 := by
  have rv := vals_ints hi
  let ts := cs.map (·.2)
  let H0 := beginH K a vs ns ts
  have tabAt : ∀ b ∈ ts, s1.heap.get? b = some emptyT := fun b hb => by
    obtain ⟨p, hp, rfl⟩ := List.mem_map.mp hb
    exact tabs p hp
  have aNo : a ∉ ts := fun z => by
    have e := tabAt a z
    rw [ha] at e
    cases e
  have only : ∀ b u, H0 b = some u → (b = a ∧ K.lookup a = none ∧ u = .frz { cls := .type "list", data := .seq vs.toArray } (.lst (ns.map V.int))) ∨ (b ∈ ts ∧ u = .tbl #[]) := fun b u e => by
    have e : (if b = a ∧ K.lookup a = none then some (HO.frz { cls := .type "list", data := .seq vs.toArray } (.lst (ns.map V.int))) else if b ∈ ts then some (.tbl #[]) else none) = some u := e
    split at e
    · rename_i h; exact .inl ⟨h.1, h.2, (Option.some.inj e).symm⟩
    · split at e
      · rename_i h; exact .inr ⟨h, (Option.some.inj e).symm⟩
      · cases e
  have isTab : ∀ b ∈ ts, H0 b = some (.tbl #[]) := fun b hb => by
    have no : ¬ (b = a ∧ K.lookup a = none) := fun z => aNo (z.1 ▸ hb)
    exact (if_neg no).trans (if_pos hb)
  have hok : HOk P w H0 s1.heap := fun b u e => by
    rcases only b u e with ⟨rfl, _, rfl⟩ | ⟨hb, rfl⟩
    · exact ⟨ha, by rw [List.length_map]; exact hl, vs, _, rv, ha⟩
    · exact tabAt b hb
  have sq : SqL K H0 a (ns.map V.int) := by
    cases e : K.lookup a with
    | none => exact .inl (.inr ⟨_, if_pos ⟨rfl, e⟩⟩)
    | some o =>
      have e' := kin a o e
      rw [ha] at e'
      cases e'
      exact .inr ⟨_, vs.toArray, _, e, rfl, rfl, rfl, by rw [List.size_toArray, hi.length]; exact hl, by simpa using rv⟩
  -- what is no list and no such table is not tracked
  have untr : ∀ {b : Addr} {o : Obj}, s1.heap.get? b = some o → (∀ xs n, o.data ≠ .seq xs n) → o.data ≠ .fields #[] → H0 b = none := fun {b o} e d d2 => by
    cases q : H0 b with
    | none => rfl
    | some u =>
      rcases only b u q with ⟨rfl, _, _⟩ | ⟨hb, _⟩
      · rw [ha] at e; cases e
        exact absurd rfl (d _ _)
      · rw [tabAt b hb] at e; cases e
        exact absurd rfl d2
  have nsB : ∀ {b : Addr} {m : Str → Option Value}, s1.heap.Ns b m → (hidT s1.heap H0).Ns b m := fun {b m} ⟨o, es, ep, e, d, r⟩ => ⟨o, es, ep, hidT_get e (untr e (fun xs n z => by rw [d] at z; cases z) fun z => by rw [d] at z; cases z), d, r⟩
  have kinB : K.In (hidT s1.heap H0) := fun b o e => hidT_get (kin b o e) (by
    cases q : H0 b with
    | none => rfl
    | some u =>
      rcases only b u q with ⟨rfl, z, _⟩ | ⟨hb, _⟩
      · rw [z] at e; cases e
      · obtain ⟨p, hp, rfl⟩ := List.mem_map.mp hb
        rw [out p hp] at e; cases e)
  have tb : ∀ p ∈ cs, TabB (hidT s1.heap H0) mg p.1 p.2 := fun p hp => by
    have tp := tabs p hp
    refine ⟨?_, ?_, fun z => ?_⟩
    · obtain ⟨o, us, file, tf, flags, tg, inF, text, tt, e1, r1, r2, r3, r⟩ := heads p hp
      refine ⟨o, us, file, tf, flags, tg, inF, text, tt, hidT_get e1 (untr e1 (fun xs n z => by rw [r2] at z; cases z) fun z => ?_), r1, r2, r3, r⟩
      rw [r2] at z; cases z; cases r3
    · obtain ⟨bm, ob, b1, b2, b3, b4, b5, b6⟩ := main
      refine ⟨bm, ob, b1, b2, fun q => ?_, fun q => ?_, hidT_get b3 (untr b3 (fun xs n z => by rw [b6] at z; cases z) fun z => by rw [b6] at z; cases z), b4, b5, b6⟩
      · obtain ⟨o, es, ep, e, d, _⟩ := gl
        rw [q, e] at b3; cases b3
        rw [d] at b6; cases b6
      · rw [q, tp] at b3; cases b3; cases b6
    · obtain ⟨o, es, ep, e, d, _⟩ := gl
      rw [z, tp] at e; cases e; cases d
  have e0 : Env0 P w K mg (hidT s1.heap H0) callerA [] s1 H0 := by
    refine ⟨rfl, ⟨kinB, nsB gl, ⟨mb, nsB bl, blt⟩, ?_⟩, fun b o e => of_hidT e, Nat.le_of_eq (hidT_size _ _), trivial, (fun b z => nomatch z), hok, .of_eq gens⟩
    obtain ⟨mc, q1, q2⟩ := lim
    exact ⟨mc, nsB q1, q2⟩
  refine codeAny_mono ((F _ kinB (nsB gl) tb).run callerA [] s1 _ ⟨[.ref a], []⟩ [.ref a] [.ref a] _ _ rfl hr e0 (bind s1 (.ref a)) (.cons rfl .nil) (hsp _ (fun p hp => isTab p.2 (List.mem_map.mpr ⟨p, hp, rfl⟩)) sq)) fun r s' z => ?_
  match r, z with
  | .ok (.ret u), ⟨v, H', os, bare, un, hok', r', q⟩ =>
    obtain rfl : v = .bl true := q
    obtain rfl : u = Value.bool true := r'
    have stay : ∀ b o, b ∉ ts → s1.heap.get? b = some o → s'.heap.get? b = some o := fun b o nb e => by
      cases q : H0 b with
      | none => exact un.keep b o e q (fun z => nomatch z) (fun z => nomatch z)
      | some u =>
        rcases only b u q with ⟨rfl, _, rfl⟩ | ⟨hb, _⟩
        · obtain ⟨t1, _⟩ := hok b _ q
          obtain ⟨t2, _⟩ := hok' b _ (un.frzs b _ _ q)
          rw [e] at t1; cases t1
          exact t2
        · exact absurd hb nb
    have grew : ∀ b ∈ ts, ∃ more : Array Value, s'.heap.get? b = some { cls := .none, data := .fields more } := fun b hb => by
      obtain ⟨more, z⟩ := un.tbls b #[] (isTab b hb)
      exact ⟨_, hok' b _ z⟩
    refine ⟨rfl, ⟨fun b o e => ?_, fun b o e => ?_⟩, os, bare⟩
    · by_cases hb : b ∈ ts
      · obtain ⟨more, z⟩ := grew b hb
        rw [tabAt b hb] at e; cases e
        obtain ⟨p, hp, rfl⟩ := List.mem_map.mp hb
        refine .inr (.inl ⟨((heads p hp).tab (tabs p hp)).isCodeTable, rfl, #[], more, rfl, ?_⟩)
        rw [Array.empty_append]; exact z
      · exact .inl (stay b o hb e)
    · by_cases hb : b ∈ ts
      · obtain ⟨more, z⟩ := grew b hb
        exact ⟨_, z⟩
      · exact ⟨o, stay b o hb e⟩
/-- the goal behind the head, with tables -/
theorem walkT {l : PySem.W.OpenLaw} {n k : Nat} {q : Program} {loose : List Str} {XP : (Str → Option Value) → Heap → Prop} {YP : World → Heap → Prop} {d : DefRec} {K : Params → PySem.W.Frag} {x : Str} (hn : l.most = some n) (hn2 : n ≤ sizeLine) (hdf : d.params.defaults = []) (hr : Room k callerA)
    (hY : ∀ (w : World) (h : Heap), YP w h → (K w.params).In h)
    (F : ∀ (w : World) (mg : Str → Option Value) (fa : Addr) (h : Heap), YP w h → (K w.params).In h → h.Ns mainGlobals mg → mg d.name = some (.ref fa) →
      ∃ (fd : FuncData) (cs : List (Addr × Addr)) (sp : Sp), (∀ p ∈ cs, h.get? p.2 = some emptyT) ∧ (∀ p ∈ cs, (K w.params).lookup p.2 = none) ∧ (∀ p ∈ cs, PySem.W.CodeHd h p.1 p.2) ∧ (∀ (s : Shared) (u : Value), BindsTo s fd ⟨[u], []⟩ [(x, u)]) ∧
        (∀ (H : Hp) (a : Addr) (ns : List Int), ns.length ≤ n → (∀ p ∈ cs, H p.2 = some (.tbl #[])) → SqL (K w.params) H a (ns.map V.int) → sp [.ref a] H (fun v _ => v = .bl true) fun _ _ _ => False) ∧
        ∀ base : Heap, (K w.params).In base → base.Ns mainGlobals mg → (∀ p ∈ cs, TabB base mg p.1 p.2) → FnG l.prog w (K w.params) mg base k fa fd [x] sp) :
    PySem.W.WalkO q loose XP YP l.row.toRowW d [] (fun f vs => PySem.call f vs) := by
  refine Att.attach_callB hn hdf fun w s0 s1 mg mb fa o pm cd doc a vs ns G Y ho hd hcd hmg ha hi hlen hbits hg => ?_
  obtain ⟨fd, cs, sp, t1, t2, t3, hb, hsp, hF⟩ := F w mg fa _ Y (hY w _ Y) G.T.g hmg
  exact law_goesT (hY w _ Y) G.T.g G.T.b G.T.builtins G.T.nolimit hg t1 t2 t3 G.T.bmain ha hi (Nat.le_trans hlen hn2) hr hF hb fun H hH hS => hsp H a ns hlen hH hS
end RS

/-! HeadK: the head by one kernel run; what the top has left, told by names: defs, own __init__, one Bool more, tables. -/
namespace RS
open PySem PySem.Spec PyProof.Rows L2

def dfd (x : Str) (st : Stmt) : He.DefD := ⟨(x, none), x, x, defArgs st, defBody st, defScope st, [], []⟩
theorem fun_of {K : PySem.W.Frag} {x : Str} {st : Stmt} {f : Addr} {fd : FuncData} (F : FunD K x x (defArgs st) (defBody st) (defScope st) [] [] f fd) : Fun K x x st f fd := by
  obtain ⟨oc, od, dV, kV, doc, pm, an, cdv, ct, osl, e, l, c, d, k⟩ := F.ex
  rcases d with ⟨_, z⟩ | ⟨z, _⟩
  · subst z
    exact ⟨⟨oc, od, kV, doc, pm, an, cdv, ct, osl, e, l, c⟩, F.kp⟩
  · exact absurd rfl z
/-- a class's own __init__, as data -/
abbrev IniW : Type := Option (Str × Str × Arguments × FuncBody × Scope × Addr × List Str × Addr)
def iniA (K : PySem.W.Frag) (x : Str) : Addr := He.ma K (He.ga K x) "__init__"
def iniW (K : PySem.W.Frag) (x : Str) : IniW := match K.lookup (iniA K x) with
  | some ⟨_, _, .func fd, _⟩ => some (fd.name, fd.qualname, fd.params, fd.body, fd.scope, fd.globals, fd.closure.map (·.1), fd.builtins)
  | _ => none
structure IniD where
  x : Str
  qual : Str
  st : Stmt
def IniD.val (d : IniD) : IniW := some ("__init__", d.qual, C8.fnArgs d.st, .stmts (C8.fnBody d.st), C8.fnScope d.st, mainGlobals, ["__class__"], builtinsNs)
/-- its cell, its code object -/
def iniC (K : PySem.W.Frag) (x : Str) : Addr := match K.lookup (iniA K x) with
  | some ⟨_, _, .func fd, _⟩ => (match fd.closure with
    | [(_, c)] => c
    | _ => 0)
  | _ => 0
def iniO (K : PySem.W.Frag) (x : Str) : Addr := match K.lookup (iniA K x) with
  | some ⟨_, _, .func fd, _⟩ => (match fd.code with
    | .ref c => c
    | _ => 0)
  | _ => 0
/-- what else is asked of it -/
def iniB (K : PySem.W.Frag) (d : IniD) : Bool := (match K.lookup (iniA K d.x) with
  | some ⟨_, _, .func fd, _⟩ => (match fd.code with
    | .ref _ => true
    | _ => false) && (match fd.defaults with
    | .none => true
    | _ => false)
  | _ => false) && PySem.W.codeIn K (.ref (iniO K d.x)) d.qual && (PySem.W.findIn K (.ref (He.ga K d.x)) "__init__" == some (some (.ref (iniA K d.x)))) && (PySem.W.typeIn K (.ref (iniA K d.x)) == some (.type "function"))
structure IniOk (K : PySem.W.Frag) (d : IniD) : Prop where
  ex : ∃ (oc : Value) (od : Option Addr) (kV doc pm ct : Value) (an : Option Addr) (osl : Array (Option Value)), K.lookup (iniA K d.x) = some ⟨oc, od, .func (PySem.W.fnX "__init__" d.qual (C8.fnArgs d.st) (C8.fnBody d.st) (C8.fnScope d.st) [("__class__", iniC K d.x)] .none kV doc pm an (.ref (iniO K d.x)) ct), osl⟩
  cd : PySem.W.codeIn K (.ref (iniO K d.x)) d.qual = true
  fi : PySem.W.findIn K (.ref (He.ga K d.x)) "__init__" = some (some (.ref (iniA K d.x)))
  ty : PySem.W.typeIn K (.ref (iniA K d.x)) = some (.type "function")
theorem ini_ok {K : PySem.W.Frag} {d : IniD} (e : iniW K d.x = d.val) (b : iniB K d = true) : IniOk K d := by
  unfold iniB at b
  simp only [Bool.and_eq_true, beq_iff_eq] at b
  obtain ⟨⟨⟨b1, b2⟩, b3⟩, b4⟩ := b
  refine ⟨?_, b2, b3, b4⟩
  unfold iniW IniD.val at e
  unfold iniC iniO
  split at b1
  · rename_i oc od fd osl hl
    rw [hl] at e ⊢
    obtain ⟨nm, qn, ps, bd, sc, gl, cl, df, kv, dc, pm, an, bi, cd, ct⟩ := fd
    simp only [Option.some.injEq, Prod.mk.injEq] at e
    obtain ⟨rfl, rfl, rfl, rfl, rfl, rfl, e7, rfl⟩ := e
    dsimp only at b1 ⊢
    obtain ⟨c2, ecl⟩ : ∃ c2 : Addr, cl = [(("__class__" : Str), c2)] := by
      cases cl with
      | nil => simp at e7
      | cons p r =>
        cases r with
        | nil =>
          obtain ⟨c1, c2⟩ := p
          have e1 : c1 = "__class__" := by simpa using e7
          exact ⟨c2, by rw [e1]⟩
        | cons q r => simp at e7
    subst ecl
    split at b1
    · rename_i c hc
      split at b1
      · exact ⟨_, _, _, _, _, _, _, _, rfl⟩
      · cases b1
    · simp at b1
  · cases b1
/-! ### the Hook -/
/-- what the module's names reach in n steps, and the statics -/
def adY (g : Addr → Option Obj) (n : Nat) : List Addr := He.asD g n ++ [cStatics]
def partY (g : Addr → Option Obj) (n : Nat) : PySem.W.Frag := He.frT g (adY g n)
section
variable (n : Nat) (fa : List He.Fa) (fn : List He.DefD) (ts : List He.Tab) (tf : List He.Defn) (ex : PySem.W.Frag → Bool) (ini : List IniD)
abbrev ObY : Type := He.AlT × Bool × List IniW
def allB (g : Addr → Option Obj) (K : PySem.W.Frag) : Bool := ex K && ((ini.all fun d => iniB K d) && He.tabsB g tf K)
def obsY (g : Addr → Option Obj) : ObY := (He.obsT fa fn ts (partY g n), allB tf ex ini g (partY g n), ini.map fun d => iniW (partY g n) d.x)
/-- what is told of the part K -/
structure SaysY (w : World) (h : Heap) (K : PySem.W.Frag) : Prop where
  t : He.SaysT fa fn ts w K
  more : ex K = true
  inb : (ini.all fun d => iniB K d) = true
  i : (ini.map fun d => iniW K d.x) = ini.map IniD.val
  hd : ∀ p ∈ tf, PySem.W.codeHdIn K (He.cT K p).1 (He.cT K p).2 = true
  out : ∀ p ∈ tf, K.lookup (He.cT K p).2 = none
  emp : ∀ p ∈ tf, h.get? (He.cT K p).2 = some emptyT
theorem says_of {w : World} {h : Heap} (e : obsY n fa fn ts tf ex ini h.get? = (He.valT fn ts w, true, ini.map IniD.val)) : SaysY fa fn ts tf ex ini w h (partY h.get? n) := by
  have e2 : allB tf ex ini h.get? (partY h.get? n) = true := congrArg (fun z : ObY => z.2.1) e
  obtain ⟨x1, x2⟩ := Bool.and_eq_true_iff.mp e2
  obtain ⟨x3, x4⟩ := Bool.and_eq_true_iff.mp x2
  have tab : ∀ p ∈ tf, PySem.W.codeHdIn (partY h.get? n) (He.cT (partY h.get? n) p).1 (He.cT (partY h.get? n) p).2 = true ∧ ∃ o, h.get? (He.cT (partY h.get? n) p).2 = some o ∧ He.emptyTab o = true := fun p hp => by
    obtain ⟨y1, y2⟩ := Bool.and_eq_true_iff.mp (List.all_eq_true.mp x4 p hp)
    refine ⟨y1, ?_⟩
    split at y2
    · rename_i o ho
      exact ⟨o, ho, y2⟩
    · cases y2
  refine ⟨congrArg (fun z : ObY => z.1) e, x1, x3, congrArg (fun z : ObY => z.2.2) e, fun p hp => (tab p hp).1, fun p hp => ?_, fun p hp => ?_⟩
  · obtain ⟨_, o, q, z⟩ := tab p hp
    exact He.frT_none q z
  · obtain ⟨_, o, q, z⟩ := tab p hp
    rw [q, He.emptyTab_eq z]
def hookY : PySem.W.Hook where
  α := ObY
  obs := fun s => obsY n fa fn ts tf ex ini s.heap.get?
  val := fun w => (He.valT fn ts w, true, ini.map IniD.val)
  says := fun w h => ∃ K : PySem.W.Frag, K.In h ∧ SaysY fa fn ts tf ex ini w h K
  of := fun _ _ e => ⟨_, He.frT_in, says_of n fa fn ts tf ex ini e⟩
  keeps := fun _ _ _ ⟨K, hK, c⟩ k => ⟨K, PySem.W.Frag.In.keeps hK k, ⟨c.t, c.more, c.inb, c.i, c.hd, c.out, fun p hp => k _ _ (c.emp p hp)⟩⟩
def obY (s : PySem.W.SharedT) : ObY := obsY n fa fn ts tf ex ini (HandSHeadRun.getT s)
theorem obY_eq (s : PySem.W.SharedT) : obY n fa fn ts tf ex ini s = (hookY n fa fn ts tf ex ini).obs s.abs := by
  have e : HandSHeadRun.getT s = s.abs.heap.get? := funext (HandSHeadRun.getT_eq s)
  unfold obY
  rw [e]
  rfl
end
section
variable {fa : List He.Fa} {fn : List He.DefD} {ts : List He.Tab} {tf : List He.Defn} {ex : PySem.W.Frag → Bool} {ini : List IniD} {w : World} {h : Heap} {K : PySem.W.Frag}
theorem SaysY.init (c : SaysY fa fn ts tf ex ini w h K) (i : Nat) {d : IniD} (e : ini[i]? = some d := by rfl) : IniOk K d := by
  have z : (ini.map fun d => iniW K d.x)[i]? = (ini.map IniD.val)[i]? := by rw [c.i]
  rw [List.getElem?_map, List.getElem?_map, e] at z
  exact ini_ok (Option.some.inj z) (List.all_eq_true.mp c.inb d (List.mem_of_getElem? e))
theorem SaysY.fact (c : SaysY fa fn ts tf ex ini w h K) (i : Nat) {f : He.Fa} (e : fa[i]? = some f := by rfl) : f.ok K = true := c.t.d.fact i e
theorem SaysY.df (c : SaysY fa fn ts tf ex ini w h K) (i : Nat) {x : Str} {st : Stmt} (e : fn[i]? = some (dfd x st) := by rfl) : ∃ fd, Fun K x x st (He.ga K x) fd := by
  obtain ⟨fd, F⟩ := c.t.d.def_ i e
  exact ⟨fd, fun_of F⟩
end
/-- the goal behind the head, with tables; the part is told by the Hook -/
theorem walkE {l : PySem.W.OpenLaw} {n k : Nat} {q : Program} {loose : List Str} {XP : (Str → Option Value) → Heap → Prop} {YP : World → Heap → Prop} {d : DefRec} {x : Str} (hn : l.most = some n) (hn2 : n ≤ sizeLine) (hdf : d.params.defaults = []) (hr : Room k callerA)
    (F : ∀ (w : World) (mg : Str → Option Value) (fa : Addr) (h : Heap), YP w h → h.Ns mainGlobals mg → mg d.name = some (.ref fa) →
      ∃ (K : PySem.W.Frag) (fd : FuncData) (cs : List (Addr × Addr)) (sp : Sp), K.In h ∧ (∀ p ∈ cs, h.get? p.2 = some emptyT) ∧ (∀ p ∈ cs, K.lookup p.2 = none) ∧ (∀ p ∈ cs, PySem.W.CodeHd h p.1 p.2) ∧ (∀ (s : Shared) (u : Value), BindsTo s fd ⟨[u], []⟩ [(x, u)]) ∧
        (∀ (H : Hp) (a : Addr) (ns : List Int), ns.length ≤ n → (∀ p ∈ cs, H p.2 = some (.tbl #[])) → SqL K H a (ns.map V.int) → sp [.ref a] H (fun v _ => v = .bl true) fun _ _ _ => False) ∧
        ∀ base : Heap, K.In base → base.Ns mainGlobals mg → (∀ p ∈ cs, LamX.TabB base mg p.1 p.2) → FnG l.prog w K mg base k fa fd [x] sp) :
    PySem.W.WalkO q loose XP YP l.row.toRowW d [] (fun f vs => PySem.call f vs) := by
  refine Att.attach_callB hn hdf fun w s0 s1 mg mb fa o pm cd doc a vs ns G Y ho hd hcd hmg ha hi hlen hbits hg => ?_
  obtain ⟨K, fd, cs, sp, hK, t1, t2, t3, hb, hsp, hF⟩ := F w mg fa _ Y G.T.g hmg
  exact law_goesT hK G.T.g G.T.b G.T.builtins G.T.nolimit hg t1 t2 t3 G.T.bmain ha hi (Nat.le_trans hlen hn2) hr hF hb fun H hH hS => hsp H a ns hlen hH hS
end RS

/-! Exk: what exception classes must say, as Bool functions that the kernel runs. -/
namespace RS
open PySem PySem.Spec PyProof.Rows L2

def exkB (K : PySem.W.Frag) (C : Addr) : Bool :=
  (PySem.W.clsIn K C).isSome && (PySem.W.findIn K (.ref C) "__getattribute__" == some (some (.builtin "BaseException.__getattribute__"))) && (PySem.W.findIn K (.ref C) "__getattr__" == some none) && (PySem.W.subIn K (.ref C) (.type "BaseException") == some true) && PySem.W.hasDictIn K C &&
  (PySem.W.findIn K (.ref C) "__class__" == some (some (.builtin "object.__class__"))) && (PySem.W.specialIn K (.builtin "object.__class__") "__get__" == some (some (.builtin "getset_descriptor.__get__"))) && (PySem.W.takesIn K (.builtin "object.__class__") == some true) && (PySem.W.mroIn K C (.type "object") == some true)
theorem exk_of {K : PySem.W.Frag} {C : Addr} (h : exkB K C = true) : ExK K C := by
  unfold exkB at h
  simp only [Bool.and_eq_true, beq_iff_eq] at h
  obtain ⟨⟨⟨⟨⟨⟨⟨⟨h1, h2⟩, h3⟩, h4⟩, h5⟩, h6⟩, h7⟩, h8⟩, h9⟩ := h
  exact ⟨h1, h2, h3, h4, h5, h6, h7, h8, h9⟩
def oexB (K : PySem.W.Frag) (C : Addr) : Bool := (match K.lookup C with
  | some ⟨.type "type", _, .cls cd, sl⟩ => (match cd.mro, sl.toList with
    | .ref C' :: bm, [_, _, _, _, some (.builtin n), _] => C' == C && n == "ValueError.__new__" && !cd.hasDel && cd.hasDict && PySem.HandSPX.refsVE bm
    | _, _ => false)
  | _ => false) && (PySem.W.findIn K (.ref C) "__setattr__" == some (some (.builtin "object.__setattr__"))) && (PySem.W.subIn K (.ref C) (.type "BaseException") == some true) && (PySem.W.typeIn K (.ref C) == some (.type "type")) && PySem.W.keepIn K (.ref C)
theorem oex_of {K : PySem.W.Frag} {C : Addr} (h : oexB K C = true) : OexC K C := by
  unfold oexB at h
  simp only [Bool.and_eq_true, beq_iff_eq] at h
  obtain ⟨⟨⟨⟨q, h2⟩, h3⟩, h4⟩, h5⟩ := h
  refine ⟨?_, h2, h3, h4, h5⟩
  split at q
  · rename_i dd cd sl ho
    split at q
    · rename_i C' bm k0 k1 k2 k3 n k5 hm hs
      simp only [Bool.and_eq_true, beq_iff_eq, Bool.not_eq_true'] at q
      obtain ⟨⟨⟨⟨rfl, rfl⟩, hdel⟩, hd⟩, ht⟩ := q
      obtain ⟨nm, bs, mro, ns, qn, hdc, sn, sub, ab, col, del⟩ := cd
      dsimp only at hm hdel hd
      subst hm hdel hd
      have hsl : sl = #[k0, k1, k2, k3, some (.builtin "ValueError.__new__"), k5] := by
        obtain ⟨l⟩ := sl
        simp only at hs
        rw [hs]
      subst hsl
      exact ⟨nm, qn, ns, bs, bm, sn, sub, ab, col, dd, k0, k1, k2, k3, k5, ho, ht⟩
    · cases q
  · cases q
def supB (P : Program) (K : PySem.W.Frag) (C cc cda : Addr) : Bool :=
  (match K.lookup cda with
    | some ⟨_, _, .fields vs, _⟩ => (match (vs[2]? : Option Value) with | some (Value.str file _) => P.main.file == file | _ => false)
    | _ => false) &&
  (match K.lookup cc with
    | some ⟨_, _, .cell (some (.ref C')), _⟩ => C' == C
    | _ => false) &&
  (PySem.W.clsIn K C).isSome && (PySem.W.mroIn K C (.ref C) == some true) && !(P.main.scope.names.lookup ("super" : Str)).isSome && (PySem.W.nsIn K cStatics "thirdparty.any" == some none) &&
  (PySem.W.ks_superIn K C C "__init__" == some (some (.builtin "ValueError.__init__"))) && (PySem.W.subIn K (.ref C) (.type "ValueError") == some true)
theorem sup_of {P : Program} {K : PySem.W.Frag} {mg : Str → Option Value} {C cc cda : Addr} (h : supB P K C cc cda = true) (m : mg "super" = none) (o : OexC K C) : SupOk P K mg C cc cda := by
  unfold supB at h
  simp only [Bool.and_eq_true, beq_iff_eq, Bool.not_eq_true'] at h
  obtain ⟨⟨⟨⟨⟨⟨⟨h1, h2⟩, h3⟩, h4⟩, h5⟩, h6⟩, h7⟩, h8⟩ := h
  refine ⟨?_, ?_, h3, h4, m, h5, h6, h7, h8, o⟩
  · split at h1
    · rename_i ccl cdd vs ccs ho
      split at h1
      · rename_i file tf hv
        exact ⟨ccl, cdd, vs, ccs, file, tf, ho, hv, by simpa using h1⟩
      · cases h1
    · cases h1
  · split at h2
    · rename_i cl cld C' csl ho
      have e : C' = C := by simpa using h2
      subst e
      exact ⟨cl, cld, csl, ho⟩
    · cases h2
/-- an exception of the class C told of all classes in cs: of the one at i alone -/
def kitB (K : PySem.W.Frag) (t : Value) (cs : List Addr) (fl : Nat → Bool) : Bool := (List.range cs.length).all fun j => (cs[j]?).any fun C => PySem.W.kitOne K t (.ref C) == some (fl j)
theorem kit_of {K : PySem.W.Frag} {t : Value} {cs : List Addr} {fl : Nat → Bool} (h : kitB K t cs fl = true) : ∀ j C, cs[j]? = some C → PySem.W.kitOne K t (.ref C) = some (fl j) := by
  intro j C e
  have hj : j < cs.length := (List.getElem?_eq_some_iff.mp e).1
  unfold kitB at h
  rw [List.all_eq_true] at h
  have := h j (List.mem_range.mpr hj)
  rw [e] at this
  simpa using this
end RS

namespace RS
open PySem PySem.Spec PyProof.Rows L2
def topS (i : Nat) : Stmt := PySem.Challenge.pw_runsasshown_k06_whole_texts_of_declarati.main.body.getD i (.Pass ⟨0, 0, 0, 0⟩)
def iniS (i : Nat) : Stmt := (C8.clsBody (topS i)).getD 0 (.Pass ⟨0, 0, 0, 0⟩)
abbrev s_is_whole : Stmt := topS 6
abbrev s_is_number : Stmt := topS 7
abbrev s_is_word : Stmt := topS 8
abbrev s_is_small : Stmt := topS 9
abbrev s_is_capital : Stmt := topS 10
abbrev s_read_number : Stmt := topS 11
abbrev s_is_mark : Stmt := topS 22
abbrev s_own_parts : Stmt := topS 23
abbrev s_is_node : Stmt := topS 24
abbrev s_is_term : Stmt := topS 25
abbrev s_is_closed : Stmt := topS 26
abbrev s_is_tree : Stmt := topS 30
abbrev s_is_function : Stmt := topS 31
abbrev s_is_kind : Stmt := topS 32
abbrev s_is_declaration : Stmt := topS 33
abbrev s_leaf_text : Stmt := topS 36
abbrev s_core_words : Stmt := topS 37
abbrev s_term_text : Stmt := topS 38
abbrev s_read_leaf : Stmt := topS 39
abbrev s_read_words : Stmt := topS 40
abbrev s_read_term : Stmt := topS 41
abbrev s_tree_rows : Stmt := topS 42
abbrev s_declared_text : Stmt := topS 43
abbrev s_need_row : Stmt := topS 44
abbrev s_term_behind : Stmt := topS 45
abbrev s_read_kind : Stmt := topS 46
abbrev s_read_tree : Stmt := topS 47
abbrev s_read_function : Stmt := topS 48
abbrev s_read_from : Stmt := topS 49
abbrev s_read_declared : Stmt := topS 50
abbrev s_declarations_text : Stmt := topS 51
abbrev s_read_declarations : Stmt := topS 52
abbrev s_law_begun : Stmt := topS 54
abbrev s_law_blended : Stmt := topS 55
abbrev s_law_draw : Stmt := topS 56
abbrev s_law_pick : Stmt := topS 57
abbrev s_law_caught : Stmt := topS 58
abbrev s_law_rk_kind : Stmt := topS 59
abbrev s_law_rt_term : Stmt := topS 60
abbrev s_law_rt_parts : Stmt := topS 61
abbrev s_law_rt_leaves : Stmt := topS 62
abbrev s_law_rt_with : Stmt := topS 63
abbrev s_law_rt_tree : Stmt := topS 64
abbrev s_law_rt_closed : Stmt := topS 65
abbrev s_law_rt_declaration : Stmt := topS 66
abbrev s_law_k06_words : Stmt := topS 67
abbrev s_law_k06_tree : Stmt := topS 68
abbrev s_law_k06_rows : Stmt := topS 69
abbrev s_law : Stmt := topS 70
end RS

/-! Ini: the own __init__ of the classes with attributes. Printed by inigen.py. -/
namespace RS
open PySem PySem.Spec PyProof.Rows L2 NdefX
/-- self, n things: kept as the fields -/
structure rIni (C : Addr) (fs : List V → List (Str × V)) (n : Nat) (vs : List V) (H : Hp) (Q : VK) : Prop where
  ex : ∃ (a : Addr) (ws : List V), vs = .ref a :: ws ∧ ws.length = n ∧ H a = some (exo a C none) ∧ ∀ d H', H d = none → d ≠ a → H' a = some (exo a C (some d)) → H' d = some (exd d (fs ws)) → (∀ b o, b ≠ a → H b = some o → H' b = some o) → Q .non H'
def spIni (C : Addr) (fs : List V → List (Str × V)) (n : Nat) : Sp := fun vs H Q _ => rIni C fs n vs H Q
def fs1 (f : Str) : List V → List (Str × V) := fun ws => match ws with | [v] => [(f, v)] | _ => []
def fs2 (f g : Str) : List V → List (Str × V) := fun ws => match ws with | [v, w] => [(g, w), (f, v)] | _ => []
section
variable {P : Program} {w : World} {K : PySem.W.Frag} {mg : Str → Option Value} {base : Heap}
theorem oki_BadText {C f cc cda : Addr} {qual : Str} {fd : FuncData} (I0 : IniAt P K mg C f cc cda qual (iniS 16) fd) (no0 : PySem.W.findIn K (.ref C) "at" = some none) :
    FnOk P w K mg base CX0 1 f fd ["self", "at"] (spIni C (fs1 "at") 1) := by
  have S : NScope ["self", "at", "__class__"] ["self", "at"] ["__class__"] (C8.fnScope (iniS 16)) := nscope_by (by decide +kernel)
  have nd := S.nd
  refine ok_initS I0 S rfl (by decide +kernel) rfl rfl (fun _ => rfl) (fun _ => rfl) rfl (by decide) (fun vs H Q E h => ?_) (fun F A outer s H vs Q E hF hr h => ?_)
  · obtain ⟨a, ws, rfl, h, _⟩ := h.ex; simp [h]
  · obtain ⟨a, ws, rfl, hl, ha, k⟩ := h.ex
    match ws, hl with
    | [v], _ =>
    subst hF
    refine ⟨a, rfl, ha, _, pss_one (ps_ost (pv 0) (pv 1)), ?_⟩
    refine ⟨_, rfl, _, rfl, a, C, rfl, I0.sup.oex, no0, .inl ⟨ha, fun d hd ne => ?_⟩⟩
    refine k d _ hd ne upd_same ?_ (fun b o hb e => ?_)
    · rw [upd_ne ne, upd_same]; rfl
    · rw [upd_ne hb, upd_ne (ne_of_none e hd)]; exact e
theorem mkx_BadText {C f cc cda : Addr} {qual : Str} {fd : FuncData} (I0 : IniAt P K mg C f cc cda qual (iniS 16) fd) (no0 : PySem.W.findIn K (.ref C) "at" = some none) (iC : PySem.W.findIn K (.ref C) "__init__" = some (some (.ref f))) (tI : PySem.W.typeIn K (.ref f) = some (.type "function")) (m : mg "BadText" = some (.ref C)) :
    MkX P w K mg base "BadText" C 1 ["self", "at"] (spIni C (fs1 "at") 1) ["at"] [0] := by
  have O := oki_BadText (P := P) (w := w) (mg := mg) (base := base) I0 no0
  obtain ⟨oc, od, kV, doc, pm, ct, an, osl, rfl, lk⟩ := I0.ex
  exact ⟨I0.sup.oex, ⟨f, _, iC, tI, O, .all fun us hl => match us, hl with | [_, _], _ => rfl, fun s e ws _ hl => match ws, hl with | [_], _ => .of_eq rfl⟩, m⟩
end
end RS

/-! Caught: try: .. except C as n: m = n, the exception being kept as a value behind it. -/
namespace RS
open PySem PySem.Spec PyProof.Rows L2

/-- at a: an exception that was caught: its class, its dict -/
def exT (cls : Value) (d : Option Addr) (a : Addr) : HO := .ext fun h => ∃ (ob : Obj) (ws : Array Value), h.get? a = some ob ∧ Zc cls d ob ∧ ob.data = .fields ws
theorem exT_ok {P : Program} {w : World} {H : Hp} {h : Heap} {a : Addr} {cls : Value} {d : Option Addr} {ob : Obj} {ws : Array Value} (e : h.get? a = some ob) (z : Zc cls d ob) (hd : ob.data = .fields ws) : ObjOk P w H h a (exT cls d a) :=
  ⟨⟨ob, ws, e, z, hd⟩, ⟨ob, e⟩, fun _ _ ⟨x, y, q, r⟩ k => ⟨x, y, k _ q, r⟩⟩
section
variable {X : Cx} {pins : List (Addr × Obj)} {σ : L2.St} {H : Hp} {s : Shared}
/-- an object that stands is told of from now on -/
theorem track {a : Addr} {u : HO} (I : Inv X pins σ H s) (na : H a = none) (nL : X.env.locals ≠ a) (nC : ∀ x c, X.env.cells.lookup x = some c → c ≠ a) (nP : ∀ p ∈ X.pn ++ pins, p.1 ≠ a) (nS : X.s_0.heap.get? a = none)
    (new : ObjOk X.prog X.w (upd H a u) s.heap a u) : Inv X pins σ (upd H a u) s := by
  have old : ∀ {b : Addr} {o : HO}, H b = some o → upd H a u b = some o := fun {b o} q => (upd_ne (ne_of_none q na)).trans q
  have was : ∀ {b : Addr} {o : Obj}, X.s_0.heap.get? b = some o → b ≠ a := fun {b o} q z => by rw [z, nS] at q; cases q
  refine { I with base := { I.base with free := fun b o q n x => ?_, tups := fun b xs q => old (I.base.tups b xs q), frzs := fun b o v q => old (I.base.frzs b o v q), tbls := fun b ps q => ?_ }, free := (upd_ne nL).trans I.free, freeC := fun x c q => (upd_ne (nC x c q)).trans (I.freeC x c q), pin := fun p hp => ?_, hok := fun b o q => ?_ }
  · exact (upd_ne (was q)).trans (I.base.free b o q n x)
  · obtain ⟨more, z⟩ := I.base.tbls b ps q
    exact ⟨more, old z⟩
  · obtain ⟨h1, h2, h3⟩ := I.pin p hp
    exact ⟨h1, (upd_ne (nP p hp)).trans h2, h3⟩
  · by_cases hb : b = a
    · subst hb
      rw [upd_same] at q
      cases q
      exact new
    · rw [upd_ne hb] at q
      exact (I.hok b o q).stay (fun _ _ _ z => z) (fun _ z => old z) fun _ _ z => old z
end
/-- what the clause wishes of an exception of the body: slot i is the clause's name, slot j keeps it -/
def wKeep (K : PySem.W.Frag) (c : Value) (i j : Nat) (Wo : WX) (D : Ends) : WX := fun cls d σ H =>
  ∃ b, PySem.W.exmOne K cls c = some b ∧ (b = true → ∀ a, H a = none → D.nx (((σ.set i (some (.ref a))).set j (some (.ref a))).set i none) (upd H a (exT cls d a))) ∧ (b = false → Wo cls d σ H)
section
variable {X : Cx} {x n m : Str} {c : Value} {i j : Nat} {body : List Stmt} {np p1 p2 p3 pos pos' : Pos} {tb : WX → TS} {Wo : WX}
theorem ps_keep (hx : X.ex = []) (hs : X.stack = X.env :: X.outer) (hf : X.env.frame = some X.env.locals) (hN : X.N.Nodup) (hi : X.N[i]? = some n) (hj : X.N[j]? = some m) (hln : X.env.kindOf n = some .local) (hlm : X.env.kindOf m = some .local) (hc : Names X x c) (tk : Takes X Wo)
    (hdb : (n == ("__debug__" : Str)) = false) (hcd : (n == ("__classdict__" : Str)) = false)
    (hsw : ∀ env : Env, swapsWithSole [.Name m p1] (.Name n p2) p3.line env = pure false)
    (hb : ∀ (W : WX) (pn : List (Addr × Obj)) (xe : Value → Shared → Prop), Takes (X.tr pn xe) W → PassesOwn (model X.prog X.w) X.A X.env xe → PSs (X.tr pn xe) body (tb W)) :
    PS X (.Try body [.ExceptHandler (some (.Name x np)) (some n) [.Assign [.Name m p1] (.Name n p2) p3] pos'] [] [] pos) (fun D σ H => tb (wKeep X.K c i j Wo D) D σ H) := by
  refine ⟨fun pins s σ H D I hyp => wpAny_Try_except ?_⟩
  have good := I.ok
  have frames : X.A.frames = some (X.env :: X.outer) := good.frames.trans (congrArg some hs)
  have body_run := hb (wKeep X.K c i j Wo D) (X.pn ++ pins) (fun e t1 => wpAny (model X.prog X.w) X.A (noteFrame e X.env)
    (fun _ t2 => wpAny (model X.prog X.w) X.A (setFlight e none) (fun _ t3 => wpAny (model X.prog X.w) X.A (handleBy e X.env [.ExceptHandler (some (.Name x np)) (some n) [.Assign [.Name m p1] (.Name n p2) p3] pos']) (SP X pins D) X.xe t3) X.xe t2) X.xe t1)
    (fun u t0 air => by
      obtain ⟨a, B, sI, pins', σ1, H1, cls, d, rfl, J0, nb, up, sky, na, os, ag, b, hex, yes, no⟩ := air
      have J : Inv X pins σ1 H1 sI := J0.ofTry good
      rw [show (X.tr (X.pn ++ pins) _).stack = X.env :: X.outer from hs] at sky nb
      refine Sky.land Zc.steady frames hf sky fun g3 fly3 up3 => ?_
      have J3 : Inv X pins σ1 H1 { t0 with heap := g3 } := J.landed (by rw [hs]; exact nb) fly3.1 (up.trans up3) os ag
      obtain ⟨o3, w3, e3, z3, k3⟩ := fly3.there
      have unframed : a ∉ frs (X.env :: X.outer) := fun hm => by
        obtain ⟨_, o', e', q'⟩ := fly3.2.2.1.mem hm
        rw [e3] at e'; cases e'
        exact q' _ k3
      have aL : a ≠ X.env.locals := fun z => unframed (List.mem_filterMap.mpr ⟨X.env, List.mem_cons_self, by rw [hf, z]⟩)
      have aF : a ∉ X.fs := fun hm => by
        obtain ⟨v, hv, q⟩ := List.mem_filterMap.mp hm
        exact unframed (List.mem_filterMap.mpr ⟨v, List.mem_cons_of_mem _ hv, q⟩)
      have aI : ∀ o, sI.heap.get? a ≠ some o := fun o q => by
        have z := nb a o q unframed
        rw [fly3.2.1] at z; cases z
      have a0 : X.s_0.heap.get? a = none := by
        cases q : X.s_0.heap.get? a with
        | none => rfl
        | some o =>
          obtain ⟨o', e'⟩ := J.base.there a o q (by rw [hx]; exact fun z => nomatch z)
          exact absurd e' (aI o')
      have aP : ∀ p ∈ X.pn ++ pins, p.1 ≠ a := fun p hp z => aI p.2 (z ▸ (J.pin p hp).1)
      have S3 := J3.suite e3 k3 na aL aF
      refine wpAny_handleBy_cons (codeAny_handlers_test ?_) (fun q => nomatch q)
      have ty : PySem.W.Looks (model X.prog X.w) g3 (typeOf (.ref a)) cls := fun A Q E s k q => wpAny_typeOf_ref (k _ _ e3) (by rw [z3.1]; exact q)
      have mt := PySem.W.exm_one (M := model X.prog X.w) J3.kIn ty hex
      have named : ∀ {Q : Value → Shared → Prop} {E : Value → Shared → Prop}, Q c { t0 with heap := g3 } → wpAny (model X.prog X.w) (X.A.mark (some (.ref a))) (eval (.Name x np) X.env) Q E { t0 with heap := g3 } := fun {Q E} q => by
        rcases hc with ⟨hg, hd0, ⟨hm⟩ | ⟨hm, hv, hn⟩⟩
        · exact ld_glob (X := X.suite a ((a, o3) :: (X.pn ++ pins))) S3 hg hm q hd0
        · exact ld_blt (X := X.suite a ((a, o3) :: (X.pn ++ pins))) S3 hg hm hv q hn hd0
      refine named (mt.here ?_)
      cases b with
      | true =>
        refine codeAny_handlers_suite_as (HandSPX.lands_againZ fly3 fun g4 fly4 up4 => ?_)
        have J4 : Inv X pins σ1 H1 { t0 with heap := g4 } := J.landed (by rw [hs]; exact nb) fly4.1 ((up.trans up3).trans up4) os ag
        obtain ⟨o4, w4, e4, z4, k4⟩ := fly4.there
        have S4 := J4.suite e4 k4 na aL aF
        refine store_ok (X := X.suite a ((a, o4) :: (X.pn ++ pins))) (v := .ref a) S4 hN hi (.inl hln) rfl (fun t5 S5 => ?_) (.inr hln)
        have one : PSs (X.suite a ((a, o4) :: (X.pn ++ pins))) [.Assign [.Name m p1] (.Name n p2) p3] _ := pss_one (ps_asg (pe_var (i := i) hi (.inl hln) hdb hcd) (pg_name (i := j) hN hj (.inl hlm) (hf := .inr hlm)) (hsw X.env))
        have hlt : i < σ1.length := by rw [J.len]; exact (List.getElem?_eq_some_iff.mp hi).1
        refine wpAny_mono (one.run [] t5 _ H1 { nx := fun σ6 H6 => σ6 = (σ1.set i (some (.ref a))).set j (some (.ref a)) ∧ H6 = H1, rt := fun _ _ => False } S5 ⟨.ref a, List.getElem?_set_self hlt, rfl, rfl⟩) (fun f t6 sp => ?_) (fun _ _ z => False.elim z)
        cases f with
        | next =>
          obtain ⟨σ6, H6, S6, eσ, eH⟩ := sp
          subst eσ eH
          refine gone_ok (X := X.suite a ((a, o4) :: (X.pn ++ pins))) S6 hN hi hln fun t7 S7 => ?_
          obtain ⟨e7, _⟩ := S7.pin (a, o4) List.mem_cons_self
          have J7 := S7.unsuite (pins := pins) good
          exact ⟨_, _, track J7 na (Ne.symm aL) (fun y c' q z => by
            obtain ⟨v', q'⟩ := J7.cell y c' q
            rw [z] at q'
            obtain ⟨o', q1, q2⟩ := q'
            rw [e7] at q1; cases q1
            rw [k4] at q2; cases q2) aP a0 (exT_ok e7 z4 k4), yes rfl a na⟩
        | brk =>
          obtain ⟨σ6, H6, S6, z⟩ := sp
          exact z.elim
        | cont =>
          obtain ⟨σ6, H6, S6, z⟩ := sp
          exact z.elim
        | ret u =>
          obtain ⟨v6, σ6, H6, S6, r6, z⟩ := sp
          exact z.elim
      | false =>
        show wpAny _ X.A (handleBy (.ref a) X.env []) _ _ _
        obtain ⟨_, _, _, oe, vs, T, oT, ts', he, hz, hd, h1, _⟩ := id fly3
        refine wpAny_handleBy_nil ?_
        unfold PySem.passOn
        refine wpAny_bind (wpAny_field he hd h1 ?_)
        rw [if_neg (show ¬ ((Value.ref T == Value.none) = true) from by simp)]
        have up_out : wpAny (model X.prog X.w) X.A (setFlight (.ref a) X.env.frame) (fun _ t4 => wpAny (model X.prog X.w) X.A (throw (.ref a) : Sem Flow) (SP X pins D) X.xe t4) X.xe { t0 with heap := g3 } := by
          rw [hf]
          exact HandSPX.setFlight_upZ fly3 fun g4 held4 up4 => wpAny_throw (tk _ _ ⟨a, B, sI, pins, σ1, H1, cls, d, rfl, J, by rw [hs]; exact nb, (up.trans up3).trans up4, .inr (.inr (by rw [hs]; exact held4)), na, os, ag, no rfl⟩)
        first
          | exact wpAny_bind (wpAny_pure (wpAny_bind up_out))
          | exact wpAny_bind up_out) PassesOwn.looking
  refine wpAny_mono (body_run.run [] s σ H D (I.toTry _) hyp) (fun f t1 sp => ?_) (fun _ _ q => q)
  match f, sp with
  | .next, ⟨σ1, H1, J1, q⟩ => exact wpAny_execs_nil ⟨σ1, H1, J1.ofTry good, q⟩
  | .brk, ⟨σ1, H1, J1, q⟩ => exact ⟨σ1, H1, J1.ofTry good, q⟩
  | .cont, ⟨σ1, H1, J1, q⟩ => exact ⟨σ1, H1, J1.ofTry good, q⟩
  | .ret u, ⟨v, σ1, H1, J1, r, q⟩ => exact ⟨v, σ1, H1, J1.ofTry good, r, q⟩
end
end RS

/-! CaughtV: isinstance and fields of a caught exception. -/
namespace RS
open PySem PySem.Spec PyProof.Rows L2

/-- at a: a caught exception of the class t -/
inductive ExC (K : PySem.W.Frag) (H : Hp) (a : Addr) : Value → Prop where
  | bare {C : Addr} (k : ExK K C) (h : H a = some (exT (.ref C) none a)) : ExC K H a (.ref C)
  | dict {C d : Addr} {fs : List (Str × V)} (k : ExK K C) (h : H a = some (exT (.ref C) (some d) a)) (hd : H d = some (.xd fs)) : ExC K H a (.ref C)
theorem ExC.same {K : PySem.W.Frag} {H H' : Hp} {a : Addr} {t : Value} (e : ExC K H a t) (s : ∀ b o, H b = some o → H' b = some o) : ExC K H' a t := by
  cases e with
  | bare k h => exact .bare k (s _ _ h)
  | dict k h hd => exact .dict k (s _ _ h) (s _ _ hd)
section
variable {X : Cx} {pins : List (Addr × Obj)} {σ : L2.St} {H : Hp} {s : Shared}
theorem exT_at {a : Addr} {cls : Value} {d : Option Addr} (I : Inv X pins σ H s) (h : H a = some (exT cls d a)) : ∃ ob ws, s.heap.get? a = some ob ∧ Zc cls d ob ∧ ob.data = .fields ws := (I.hok a _ h).1
theorem caught_dict {a C d : Addr} {fs : List (Str × V)} (I : Inv X pins σ H s) (h : H a = some (exT (.ref C) (some d) a)) (hd : H d = some (.xd fs)) :
    ∃ (ox od : Obj) (mA : Str → Option Value), PySem.W.InstAt s.heap a ox C (some od) ∧ (∀ n, PySem.W.lookIn n od = some (mA n)) ∧ ∀ f, RelO (fs.lookup f) (mA f) := by
  obtain ⟨ob, ws, h1, ⟨h2, h3⟩, h4⟩ := exT_at I h
  obtain ⟨mA, hn, hr⟩ := (show ObjOk X.prog X.w H s.heap d (.xd fs) from I.hok d _ hd)
  obtain ⟨od, ho, hl⟩ := lookIn_ns hn
  exact ⟨ob, od, mA, ⟨h1, h2, by unfold PySem.W.notCls; rw [h4] <;> rfl, by rw [h3]; exact ho⟩, hl, hr⟩
theorem kit_exC {a : Addr} {t : Value} (I : Inv X pins σ H s) (e : ExC X.K H a t) : ∃ P : Heap → Prop, PySem.W.KitX X.K (.ref a) t P ∧ P s.heap := by
  cases e with
  | bare k h =>
    obtain ⟨oe, vs, h1, h2, h3⟩ := exT_at I h
    exact ⟨_, PySem.W.kitx_exc (od := none) k.cl k.ga k.gg k.sub k.ca k.cg k.ct k.ob, ⟨h1, h2.1, by unfold PySem.W.notCls; rw [h3] <;> rfl, by rw [h2.2]; trivial⟩⟩
  | dict k h hd =>
    obtain ⟨ox, od, mA, J, _⟩ := caught_dict I h hd
    exact ⟨_, PySem.W.kitx_exc (od := some od) k.cl k.ga k.gg k.sub k.ca k.cg k.ct k.ob, J⟩
end
/-- isinstance(e, c), e a caught exception -/
structure rIsC (K : PySem.W.Frag) (xs : List V) (H : Hp) (Q : VK) : Prop where
  ex : ∃ (a : Addr) (c : V) (t u : Value) (b : Bool), xs = [.ref a, c] ∧ ClsV c u ∧ ExC K H a t ∧ PySem.W.kitOne K t u = some b ∧ Q (.bl b) H
theorem call_isC {X : Cx} : CallR X (.builtin "isinstance") (rIsC X.K) := by
  intro pins s σ H xs us Q I r h
  obtain ⟨a, c, t, u, b, rfl, k, e, hk, q⟩ := h.ex
  obtain ⟨u1, u2, rfl, r1, r2⟩ := vals2 r
  obtain rfl := k.eq r2
  cases r1
  obtain ⟨P, Z, p⟩ := kit_exC I e
  exact PySem.W.kia_one Z I.kIn p hk (fun z => nomatch z) fun tk => ⟨.bl b, H, I.tok tk, rfl, q⟩
/-- e.f, e a caught exception with fields -/
structure rFdC (K : PySem.W.Frag) (n : Str) (x : V) (H : Hp) (Q : VK) : Prop where
  ex : ∃ (a C d : Addr) (fs : List (Str × V)) (v : V), x = .ref a ∧ ExK K C ∧ PySem.W.findIn K (.ref C) n = some none ∧ H a = some (exT (.ref C) (some d) a) ∧ H d = some (.xd fs) ∧ fs.lookup n = some v ∧ Q v H
def tFdC (K : PySem.W.Frag) (n : Str) (te : TE) : TE := fun σ H Q => te σ H fun x H1 => rFdC K n x H1 Q
theorem pe_fdC {X : Cx} {e : Expr} {te : TE} {pos : Pos} {n : Str} (he : PE X e te) (hb : attributeBase e n X.env (eval e X.env) = eval e X.env := by rfl) : PE X (.Attribute e n pos) (tFdC X.K n te) := by
  refine ⟨fun pins s σ H Q I h => attr_of hb (thn (he.run pins s σ H _ I h) fun u s1 ⟨x, H1, I1, rx, q⟩ => ?_)⟩
  obtain ⟨a, C, d, fs, v, rfl, k, hno, h1, h2, hl, q⟩ := q.ex
  cases rx
  obtain ⟨ox, od, mA, J, lk, rel⟩ := caught_dict I1 h1 h2
  obtain ⟨u, hu, ru⟩ := RelO.some_of (v := v) (o := mA n) (by rw [← hl]; exact rel n)
  exact HandSPX.exc_get I1.kIn J k.ga k.gg k.sub (PySem.W.findObj_own k.hd hno rfl (by rw [lk, hu])) (handed_of ru) ⟨v, H1, I1.tok _, ru, q⟩
end RS

/-! KItems: for k, v in D.items(), D a dict that the module's top has written. -/
namespace RS
open PySem PySem.Spec PyProof.Rows L2

/-- at d the top has written a dict of these pairs -/
structure KD (K : PySem.W.Frag) (w : World) (d : Addr) (kvs : List (Key × V)) : Prop where
  ex : ∃ es n, K.lookup d = some ⟨.type "dict", none, .dict es n, #[]⟩ ∧ PySem.W.KeysLit w.params es.toList ∧ ∃ vs : List (Key × Value), KV kvs vs ∧ (vs.map (·.1)).Nodup ∧ ∀ P : Program, PySem.Pairs (mixKind P w) es.toList vs
  ne : (d == sysModules) = false
theorem KD.at {X : Cx} {pins : List (Addr × Obj)} {σ : L2.St} {H : Hp} {s : Shared} {d : Addr} {kvs : List (Key × V)} (D : KD X.K X.w d kvs) (I : Inv X pins σ H s) : ∃ (vs : List (Key × Value)) (n : Nat), KV kvs vs ∧ s.heap.DictAt (mixKind X.prog X.w) d vs n ∧ ∃ es, X.K.lookup d = some ⟨.type "dict", none, .dict es n, #[]⟩ := by
  obtain ⟨es, n, hl, hk, vs, kv, nd, ps⟩ := D.ex
  refine ⟨vs, n, kv, ⟨_, es, I.kIn _ _ hl, ⟨rfl, rfl, rfl⟩, rfl, fun e he => ?_, ps X.prog, nd⟩, es, hl⟩
  obtain ⟨x, t, e1, e2⟩ := hk.all e (Array.mem_toList_iff.mpr he)
  exact ⟨.inr x, by rw [e1]; exact mixKind_str _ _ x t, e2⟩
/-- its pairs, each a new tuple -/
def ItD (kvs : List (Key × V)) : It := ⟨fun i _ => i < kvs.length, fun i H x H' => ∃ T k v, kvs[i]? = some (k, v) ∧ x = .ref T ∧ H T = none ∧ H' = upd H T (.tup [kV k, v]), fun i _ => kvs.length ≤ i⟩
theorem turn_kd {P : Program} {w : World} {K : PySem.W.Frag} {elts : List Expr} {kk : Nat} {tpos : Pos} {d it : Addr} {ep : Nat} {kvs : List (Key × V)} (D : KD K w d kvs) (hep : ∀ es n, K.lookup d = some ⟨.type "dict", none, .dict es n, #[]⟩ → n = ep) :
    Turn P w K (.Tuple elts kk tpos) (ItD kvs) [it] it (fun i h => ∃ u v, IsItemIter h it d i kvs.length ep u v) where
  mem := List.mem_singleton.mpr rfl
  obj := fun i h ⟨u, v, e⟩ b hb => by
    rw [List.mem_singleton.mp hb]
    exact ⟨_, e, fun _ z => nomatch z⟩
  keep := fun i h h' ⟨u, v, e⟩ k => ⟨u, v, k it (List.mem_singleton.mpr rfl) _ e⟩
  item := by
    rintro X rfl rfl rfl hc i pins s σ H E I hf ⟨uk, uv, hit⟩ hlt
    obtain ⟨vs, n, kv, hm, es, hl⟩ := D.at I
    obtain rfl := hep _ _ hl
    have fpi := hf it (List.mem_singleton.mpr rfl)
    have same : kvs.length = vs.length := Paired.length kv
    have hkv : kvs[i]? = some kvs[i] := List.getElem?_eq_getElem hlt
    obtain ⟨u, hu, ru⟩ := kv_get (k := kvs[i].1) (v := kvs[i].2) kv hkv
    rw [same] at hit
    have older : it < s.heap.objs.size := Heap.lt_size hit
    refine wpAny_pyNext_items_item hit hm hu fun key g hkey ho hT hz hk => ⟨_, rfl, wpAny_letOwnedTupleGo_items (s := { s with heap := g }) ho fun g' hit' sb => ?_⟩
    have hT' : g'.get? s.heap.objs.size = some { cls := .type "tuple", data := .seq #[key, u] } := (sb.2 _ (Nat.ne_of_gt older)).trans hT
    have J := I.turnedNew (t' := s.toks) (ch := [it]) (T := s.heap.objs.size) (ob := .tup [kV kvs[i].1, kvs[i].2]) (h' := g') (fun b o hb e => (sb.2 b fun z => hb (List.mem_singleton.mpr z)).trans (hk b o (fun z => hb (List.mem_singleton.mpr z)) e)) hf (Nat.le_refl _)
      ⟨by show 2 ≤ sizeLine; decide, [key, u], .cons (relV_key (show keyIs kvs[i].1 key = true from hkey)) (.cons ru .nil), ⟨_, hT', rfl, _, rfl⟩⟩
    refine ⟨.ref s.heap.objs.size, _, J, rfl, ⟨_, _, _, hkv, rfl, I.hok.fresh (Nat.le_refl _), rfl⟩, ⟨key, u, by rw [same]; exact hit'⟩, fun b hb => ?_⟩
    rw [List.mem_singleton.mp hb, upd_ne (Nat.ne_of_lt older)]
    exact fpi.1
  done := by
    rintro X rfl rfl rfl hc i pins s σ H E I hf ⟨uk, uv, hit⟩ hle
    obtain ⟨vs, n, kv, hm, es, hl⟩ := D.at I
    obtain rfl := hep _ _ hl
    obtain ⟨f0, f1, f2, f3, f4, f5⟩ := hf it (List.mem_singleton.mpr rfl)
    have same : kvs.length = vs.length := Paired.length kv
    rw [same] at hit
    exact wpAny_pyNext_items_end (I.ok.hd hc) hit hm (List.getElem?_eq_none (same ▸ hle)) fun g eb => ⟨rfl, I.turned (t' := s.toks) (fun b o hb e => eb b o hb e) f0 f1 f3 f4 f5⟩
  self := fun _ _ _ _ _ ⟨_, _, e⟩ q => PySem.W.kcp_self e q
structure iKD (K : PySem.W.Frag) (w : World) (td : TE) (σ : L2.St) (H : Hp) (R : It → Hp → Prop) : Prop where
  h : td σ H fun x H1 => ∃ d kvs, x = .ref d ∧ KD K w d kvs ∧ R (ItD kvs) H1
theorem pi_kd {X : Cx} {e : Expr} {td : TE} {apos cpos : Pos} {elts : List Expr} {kk : Nat} {tpos : Pos} (he : PE X e td) (hbase : attributeBase e "items" X.env (eval e X.env) = eval e X.env := by rfl) (hline : (apos.endLine == cpos.line) = true := by rfl) :
    PI X (.Tuple elts kk tpos) (.Call (.Attribute e "items" apos) [] [] cpos) (iKD X.K X.w td) := by
  refine ⟨fun pins s σ H R I h => wpAny_Call_method (T := "dict") (id := "dict.items") hbase rfl hline F.plainAttrs_dict F.slot_dict_items F.type_dict_items (thn (he.run pins s σ H _ I h.h) fun u s1 ⟨x, H1, I1, rx, d, kvs, ex, D, q⟩ => ?_)⟩
  subst ex
  cases rx
  obtain ⟨vs, n, kv, hm, es, hl⟩ := D.at I1
  refine ⟨hm.dictOf.typeIs, hm.dictOf.mapOf.noDict, ?_⟩
  have I2 := I1.kept (t' := s1.toks) (h' := s1.heap.push { cls := .type "dict_items", data := .fields #[.ref d] }) fun b o q => Heap.get?_push_of_some _ q
  have same : kvs.length = vs.length := Paired.length kv
  have at0 : wpAny (model X.prog X.w) X.A (pyIter (.ref s1.heap.objs.size)) (PIE X pins σ (.Tuple elts kk tpos) R) X.xe { s1 with heap := s1.heap.push { cls := .type "dict_items", data := .fields #[.ref d] } } :=
    wpAny_pyIter_items (d := d) (knd := mixKind X.prog X.w) ⟨_, Heap.get?_push_size _ rfl, rfl, rfl⟩ (hm.push _) (pi_one (tk := s1.toks) I2 _ (turn_kd D fun es' n' hl' => by rw [hl] at hl'; injection hl' with hl'; injection hl' with _ _ hl'; injection hl' with _ hl'; exact hl'.symm) ⟨.none, .none, by rw [same]; exact Heap.get?_push_size _ rfl⟩ q)
  show wpAny _ _ (callWith cpos (.builtin "dict.items") [.ref d] [] []) _ X.xe s1
  exact method_meetsIn F.slot_dict_items F.entry_dict_items rfl (PySem.evalArgs_none ⟨rfl, hm.dictOf.typeIs, F.args_dict_items_1 _, _, meets_dict_items (mixKind X.prog X.w) d D.ne, ⟨vs, hm.dictOf⟩, at0⟩)
end RS

/-! Base4: slices of lists or texts, defs that raise told by their names, own exceptions raised, types of data. -/
namespace RS
open PySem PySem.Spec PyProof.Rows L2

/-! ### slices -/
structure rSlU (K : PySem.W.Frag) (x : V) (lo hi : Option Int) (H : Hp) (Q : VK) : Prop where
  or : rSlL K x lo hi H Q ∨ rSlS x lo hi H Q
theorem uSl {X : Cx} : SlR X (rSlU X.K) := fun pins s σ H x v vl vu lo hi sl Q I rx hs pl pu q => SlR.or sl_list sl_str pins s σ H x v vl vu lo hi sl Q I rx hs pl pu q.or
theorem sl_s {K : PySem.W.Frag} {z : Str} {lo hi : Option Int} {H : Hp} {Q : VK} (hz : z.length ≤ 100000) (q : Q (.str (cutS z lo hi)) H) : rSlU K (.str z) lo hi H Q := ⟨.inr ⟨z, rfl, by rw [sizeLine_eq]; omega, q⟩⟩
theorem sl_l {K : PySem.W.Frag} {a : Addr} {xs : List V} {lo hi : Option Int} {H : Hp} {Q : VK} (h : SqL K H a xs) (q : ∀ p H', Same H H' → H' p = some (.lst (cutV xs lo hi)) → Q (.ref p) H') : rSlU K (.ref a) lo hi H Q := ⟨.inl ⟨a, xs, rfl, h, fun p np => q p _ (same_new np) upd_same⟩⟩

/-! ### defs that raise -/
structure DfX (P : Program) (w : World) (K : PySem.W.Frag) (mg : Str → Option Value) (base : Heap) (x : Str) (k : Nat) (ps : List Str) (sp : Sp) : Prop where
  ex : ∃ f fd, FnOk P w K mg base (L2.CX P w) k f fd ps sp ∧ mg x = some (.ref f) ∧ PySem.W.keepIn K (.ref f) = true ∧ Binds K fd ps []
theorem passX0 {X : Cx} : Passes (L2.CX X.prog X.w) X E0 := fun _ _ _ _ _ _ _ z => by
  obtain ⟨_, _, _, _, _, _, _, _, _, _, _, _, z⟩ := z
  exact False.elim z
def tDfX (sp : Sp) (E : XK) (t : TA) : TE := fun σ H Q => t σ H fun vs H1 => sp vs H1 Q E
theorem pe_dfX {X : Cx} {x : Str} {j k : Nat} {ps : List Str} {sp : Sp} {E : XK} {e : Expr} {es : List Expr} {t : TA} {p pos : Pos} (D : DfX X.prog X.w X.K X.mg X.base x j ps sp) (hr : Room k X.A) (hk : j ≤ k) (hx : Passes (L2.CX X.prog X.w) X E) (ha : PA X (e :: es) t) (hg : Gl X x := by rfl)
    (hdb : (x == ("__debug__" : Str)) = false := by decide) (he : starEach (e :: es) X.env = (false, eval e X.env) :: starEach es X.env := by rfl) (hpl : (backTo pos (starEach es X.env)).any (·.1) = false := by rfl) :
    PE X (.Call (.Name x p) (e :: es) [] pos) (tDfX sp E t) := by
  obtain ⟨f, fd, F, hm, kp, b⟩ := D.ex
  have q := pe_call (p := p) (pos := pos) F (hr.mono hk) hg hm kp b .nil hx ha hdb he hpl
  have e0 : tCall sp [] E t = tDfX sp E t := by
    funext σ H Q
    show t σ H (fun vs H1 => sp (vs ++ []) H1 Q E) = _
    have e1 : (fun (vs : List V) (H1 : Hp) => sp (vs ++ []) H1 Q E) = fun vs H1 => sp vs H1 Q E := by funext vs H1; rw [List.append_nil]
    rw [e1]; rfl
  rw [e0] at q
  exact q
/-- by keywords alone -/
structure DfKX (P : Program) (w : World) (K : PySem.W.Frag) (mg : Str → Option Value) (base : Heap) (x : Str) (k : Nat) (ps : List Str) (sp : Sp) (ks : List Str) (π : List Nat) : Prop where
  ex : ∃ f fd, FnOk P w K mg base (L2.CX P w) k f fd ps sp ∧ mg x = some (.ref f) ∧ PySem.W.keepIn K (.ref f) = true ∧ BindsK0 K fd ps ks π
def tDfKX (sp : Sp) (E : XK) (ks : List Str) (π : List Nat) (tk : TA) : TE := fun σ H Q => tk σ H fun zs H1 => zs.length = ks.length ∧ sp (permL π zs) H1 Q E
theorem run_kx {X : Cx} {pins : List (Addr × Obj)} {σ : L2.St} {H : Hp} {s : Shared} {Q : VK} {E : XK} {ws : List Value} {zs : List V} {f : Addr} {fd : FuncData} {ps ks : List Str} {π : List Nat} {sp : Sp} {k : Nat} (F : FnOk X.prog X.w X.K X.mg X.base (L2.CX X.prog X.w) k f fd ps sp) (hr : Room k X.A)
    (hx : Passes (L2.CX X.prog X.w) X E) (hb : BindsK0 X.K fd ps ks π) (I : Inv X pins σ H s) (rz : Vals zs ws) (hl : zs.length = ks.length) (h : sp (permL π zs) H Q E) : wpAny (model X.prog X.w) X.A (call (.ref f) [] (ks.zip ws)) (EP X pins σ Q) X.xe s := by
  refine wpAny_call (codeAny_mono (F.run X.A X.stack s H ⟨[], ks.zip ws⟩ (permL π ws) (permL π zs) Q E hr I.env0 (hb s ws I.kIn (by rw [← rz.length]; exact hl)) (vals_perm rz π) h) fun r s' hq => ?_)
  cases r with
  | error e => exact hx pins σ H s e s' I hq
  | ok fl =>
    cases fl with
    | ret u => exact I.after hq
    | next => exact False.elim hq
    | brk => exact False.elim hq
    | cont => exact False.elim hq
theorem pe_dfKX {X : Cx} {x : Str} {j k : Nat} {ps ks : List Str} {π : List Nat} {sp : Sp} {E : XK} {kws : List Keyword} {tk : TA} {p pos : Pos} (D : DfKX X.prog X.w X.K X.mg X.base x j ps sp ks π) (hr : Room k X.A) (hk : j ≤ k) (hx : Passes (L2.CX X.prog X.w) X E) (hkw : PK X kws tk) (hg : Gl X x := by rfl)
    (hall : (backToKw pos (keywordEach kws X.env)).all (·.1.isSome) = true := by rfl) (hks : (backToKw pos (keywordEach kws X.env)).filterMap (·.1) = ks := by rfl) (hdb : (x == ("__debug__" : Str)) = false := by decide)
    (hpl : ((backTo pos (starEach [] X.env)).any (·.1) || (backToKw pos (keywordEach kws X.env)).any (·.1.isNone)) = false := by rfl) :
    PE X (.Call (.Name x p) [] kws pos) (tDfKX sp E ks π tk) := by
  obtain ⟨f, fd, F, hm, kp, b⟩ := D.ex
  refine ⟨fun pins s σ H Q I h => wpAny_Call_Name_kw (ld_glob I hg hm ?_ hdb)⟩
  refine PySem.W.callWith_KW0 (h₀ := X.base) I.ok.mod.kin kp hall (thn (hkw.run pos pins s σ H _ I h) fun ws s2 ⟨zs, H2, I2, rz, hl, q2⟩ => ⟨I2.kIn, ?_⟩) hpl
  rw [hks]
  exact run_kx F (hr.mono hk) hx b I2 rz hl q2

/-! ### own exceptions raised -/
theorem pmk_mkX {X : Cx} {x : Str} {C : Addr} {j k : Nat} {ps ks : List Str} {sp : Sp} {π : List Nat} {e : Expr} {es : List Expr} {ta : TA} {p pos : Pos} (M : MkX X.prog X.w X.K X.mg X.base x C j ps sp ks π) (hr : Room k X.A) (hk : j + 1 ≤ k) (ha : PA X (e :: es) ta) (hg : Gl X x := by rfl)
    (hdb : (x == ("__debug__" : Str)) = false := by decide) (he : starEach (e :: es) X.env = (false, eval e X.env) :: starEach es X.env := by rfl) (hpl : (backTo pos (starEach es X.env)).any (·.1) = false := by rfl) :
    PMk X (.Call (.Name x p) (e :: es) [] pos) (tMkO C sp [] ta) := by
  obtain ⟨fI, fd, iC, tI, F1, hb, _⟩ := M.ex
  exact pmk_oex M.oex iC tI F1 (hr.mono hk) hb .nil pass0 hg M.mgx ha hdb he hpl

/-! ### a tuple and the empty one -/
def rEqT0 (K : PySem.W.Frag) : R2 := fun x y H Q => ∃ a b xs, x = .ref a ∧ y = .ref b ∧ SqT K H a xs ∧ SqT K H b [] ∧ Q (.bl xs.isEmpty) H
theorem op_eqT0 {X : Cx} (hu : X.A.units + 64 < cLine) : OpR X (compareOp .Eq) (rEqT0 X.K) := by
  intro pins s σ H x y v u Q I rx ry h
  obtain ⟨a, b, xs, rfl, rfl, ha, hb, q⟩ := h
  cases rx; cases ry
  obtain ⟨i1, r1, t1, _⟩ := I.tuple ha
  obtain ⟨i2, r2, t2, _⟩ := I.tuple hb
  have e2 : i2 = [] := List.length_eq_zero_iff.mp (by rw [← r2.length]; rfl)
  subst e2
  refine SeqAt.eq_tupleAt (e := fun _ => true) t1 t2 (by omega) (fun j h1 h2 => absurd h2 (Nat.not_lt_zero j)) ?_
  refine ⟨.bl xs.isEmpty, H, I, ?_, q⟩
  cases xs with
  | nil => cases r1; rfl
  | cons x xs =>
    cases r1 with
    | cons _ _ => rfl

/-! ### the types of data -/
def tyN : PyData → String
  | .none => "NoneType"
  | .bool _ => "bool"
  | .int _ => "int"
  | .str _ => "str"
  | .tuple _ => "tuple"
  | _ => "object"
theorem sqT_tyx {K : PySem.W.Frag} {H : Hp} {a : Addr} {xs : List V} (h : SqT K H a xs) : TyX K H (.ref a) (.type "tuple") := by
  rcases h with (h | ⟨o, h⟩) | ⟨o, its, n, h1, h2, _⟩
  · exact .base (.tup h)
  · exact .fTuple h
  · exact .kTuple h1 h2
theorem dt_tyx {K : PySem.W.Frag} {H : Hp} {v : V} {d : PyData} (h : Dt K H v d) : TyX K H v (.type (tyN d)) := by
  cases h with
  | non => exact .base .non
  | bl b => exact .base (.bl b)
  | int i => exact .base (.int i)
  | str x => exact .base (.str x)
  | tup h _ => exact sqT_tyx h
/-- isinstance, one built-in type -/
theorem isi_b {K : PySem.W.Frag} {H : Hp} {Q : VK} {v : V} {t n : String} {b : Bool} (h : TyX K H v (.type t)) (e : L2.kitB t n = some b) (q : Q (.bl b) H) : rIsi K [v, .ty n] H Q := ⟨v, .ty n, _, _, b, rfl, .ty n, h, kit_ty e, q⟩
end RS

/-! Hot6: raise C(e) from n, in an except suite that caught n; try: .. except C as n: suite that raises; defs whose exceptions have no context. -/
namespace RS
open PySem PySem.Spec PyProof.Rows L2 NdefX HotX

/-! ### exceptions without a context -/
theorem cxn_imp {P : Program} {w : World} {outer : List Env} {H : Hp} {s s' : Shared} {E : XK} {u : Value} (h : L2N.CX P w outer H s E u s') : L2.CX P w outer H s E u s' := by
  obtain ⟨a, B, H', cls, d, e, fl, r⟩ := h
  exact ⟨a, B, H', cls, d, e, L2H.flyingZ_imp (fun o z => z.zc) fl, r⟩
theorem fn_weak {P : Program} {w : World} {K : PySem.W.Frag} {mg : Str → Option Value} {base : Heap} {k : Nat} {f : Addr} {fd : FuncData} {ps : List Str} {sp : Sp} (F : FnOk P w K mg base (L2N.CX P w) k f fd ps sp) : FnOk P w K mg base (L2.CX P w) k f fd ps sp :=
  ⟨F.len, fun A outer s H args us vs Q E hr e0 hb r q => codeAny_mono (F.run A outer s H args us vs Q E hr e0 hb r q) fun r s' z => by
    cases r with
    | ok fl => cases fl <;> exact z
    | error e => exact cxn_imp z⟩
structure DfN (P : Program) (w : World) (K : PySem.W.Frag) (mg : Str → Option Value) (base : Heap) (x : Str) (k : Nat) (ps : List Str) (sp : Sp) : Prop where
  ex : ∃ f fd, FnOk P w K mg base (L2N.CX P w) k f fd ps sp ∧ mg x = some (.ref f) ∧ PySem.W.keepIn K (.ref f) = true ∧ Binds K fd ps []
theorem DfN.x {P : Program} {w : World} {K : PySem.W.Frag} {mg : Str → Option Value} {base : Heap} {x : Str} {k : Nat} {ps : List Str} {sp : Sp} (D : DfN P w K mg base x k ps sp) : DfX P w K mg base x k ps sp := by
  obtain ⟨f, fd, F, r⟩ := D.ex
  exact ⟨f, fd, fn_weak F, r⟩
theorem pe_dfN {X : Cx} {x : Str} {j k : Nat} {ps : List Str} {sp : Sp} {E : XK} {e : Expr} {es : List Expr} {t : TA} {p pos : Pos} (D : DfN X.prog X.w X.K X.mg X.base x j ps sp) (hr : Room k X.A) (hk : j ≤ k) (hx : Passes (L2N.CX X.prog X.w) X E) (ha : PA X (e :: es) t) (hg : Gl X x := by rfl)
    (hdb : (x == ("__debug__" : Str)) = false := by decide) (he : starEach (e :: es) X.env = (false, eval e X.env) :: starEach es X.env := by rfl) (hpl : (backTo pos (starEach es X.env)).any (·.1) = false := by rfl) :
    PE X (.Call (.Name x p) (e :: es) [] pos) (tDfX sp E t) := by
  obtain ⟨f, fd, F, hm, kp, b⟩ := D.ex
  have q := pe_call (p := p) (pos := pos) F (hr.mono hk) hg hm kp b .nil hx ha hdb he hpl
  have e0 : tCall sp [] E t = tDfX sp E t := by
    funext σ H Q
    show t σ H (fun vs H1 => sp (vs ++ []) H1 Q E) = _
    have e1 : (fun (vs : List V) (H1 : Hp) => sp (vs ++ []) H1 Q E) = fun vs H1 => sp vs H1 Q E := by funext vs H1; rw [List.append_nil]
    rw [e1]; rfl
  rw [e0] at q
  exact q
/-- what a callee lets out is wished for at the caller's slots -/
def tDfS (sp : Sp) (E : L2.St → XK) (t : TA) : TE := fun σ H Q => t σ H fun vs H1 => sp vs H1 Q (E σ)
theorem pe_dfNS {X : Cx} {W : WX} {x : Str} {j k : Nat} {ps : List Str} {sp : Sp} {e : Expr} {es : List Expr} {t : TA} {p pos : Pos} (D : DfN X.prog X.w X.K X.mg X.base x j ps sp) (hr : Room k X.A) (hk : j ≤ k) (tk : L2N.Takes X W) (ha : PA X (e :: es) t) (hg : Gl X x := by rfl)
    (hdb : (x == ("__debug__" : Str)) = false := by decide) (he : starEach (e :: es) X.env = (false, eval e X.env) :: starEach es X.env := by rfl) (hpl : (backTo pos (starEach es X.env)).any (·.1) = false := by rfl) :
    PE X (.Call (.Name x p) (e :: es) [] pos) (tDfS sp (WE W) t) := by
  obtain ⟨f, fd, F, hm, kp, b⟩ := D.ex
  exact pe_callS F (hr.mono hk) hg hm kp b (fun σ => L2N.passAt tk σ) ha hdb he hpl
section
variable {P : Program} {w : World} {K : PySem.W.Frag} {mg : Str → Option Value} {base : Heap}
theorem Fun.okN {x qual : Str} {st : Stmt} {f : Addr} {fd : FuncData} {N ps : List Str} {k : Nat} {sp : Sp} (F : Fun K x qual st f fd) (S : FnScope N ps (defScope st)) (len : ∀ vs H Q E, sp vs H Q E → vs.length = ps.length)
    (hbody : ∀ (cdv : Value) (A : Around) (outer : List Env) (s : Shared) (H : Hp) (vs : List V) (Q : VK) (E : XK), Room k (A.deeper (envOfC qual (defScope st) s.heap.objs.size f cdv)) → sp vs H Q E →
      ∃ t, PSs (cxOf (L2N.CX P w) P w K mg base N qual (defScope st) f cdv A outer s H E) (defBody st) t ∧ t { nx := fun _ H' => Q .non H', rt := Q } (start N vs) H) : FnOk P w K mg base (L2N.CX P w) (k + 1) f fd ps sp := by
  obtain ⟨oc, od, kV, doc, pm, an, cdv, ct, osl, rfl, lk, hcd⟩ := F.ex
  exact fn_of lk hcd S len fun A outer s H vs Q E hr hsp => hbody cdv A outer s H vs Q E hr hsp
end
/-- C(e, ..), nothing being handled -/
theorem pmkN_mkX {X : Cx} {x : Str} {C : Addr} {j k : Nat} {ps ks : List Str} {sp : Sp} {π : List Nat} {e : Expr} {es : List Expr} {ta : TA} {p pos : Pos} (M : MkX X.prog X.w X.K X.mg X.base x C j ps sp ks π) (hr : Room k X.A) (hk : j + 1 ≤ k) (ha : PA X (e :: es) ta) (hg : Gl X x := by rfl)
    (hdb : (x == ("__debug__" : Str)) = false := by decide) (he : starEach (e :: es) X.env = (false, eval e X.env) :: starEach es X.env := by rfl) (hpl : (backTo pos (starEach es X.env)).any (·.1) = false := by rfl) :
    L2N.PMk X (.Call (.Name x p) (e :: es) [] pos) (tMkO C sp [] ta) := by
  obtain ⟨fI, fd, iC, tI, F1, hb, _⟩ := M.ex
  have T := M.oex
  replace hr := hr.mono hk
  intro pins s σ H Q I h
  obtain ⟨nm, q, N, bs, bm, sn, sub, ab, col, dd, k0, k1, k2, k3, k5, hC, hbm⟩ := T.cls
  refine wpAny_Call_Name_kw (ld_glob I hg M.mgx ?_ hdb)
  refine PySem.W.callWith_K (h₀ := X.base) I.ok.mod.kin T.kC (thn (ha.run pos pins s σ H _ I h) fun us s1 ⟨vs, H1, I1, r1, hz, q1⟩ => ⟨I1.kIn, ?_⟩) he hpl
  show wpAny _ _ (call (.ref C) us) _ _ _
  obtain ⟨hp, g, dr, tk, os⟩ := s1
  have hsz : hp.objs.size ≤ hp.objs.size + 1 := Nat.le_succ _
  have hn : H1 (hp.objs.size + 1) = none := I1.hok.fresh hsz
  have hq := q1 (hp.objs.size + 1) hn
  rw [List.append_nil] at hq
  have kk : ∀ b o, hp.get? b = some o → ((hp.push (PySem.W.kdv_tup us)).push (PySem.HandSPX.excO C hp.objs.size)).get? b = some o := fun b o e => Heap.get?_push_of_some _ (Heap.get?_push_of_some _ e)
  have hget : ((hp.push (PySem.W.kdv_tup us)).push (PySem.HandSPX.excO C hp.objs.size)).get? (hp.objs.size + 1) = some (PySem.HandSPX.excO C hp.objs.size) := by heap_get
  have I2 : Inv X pins σ (upd H1 (hp.objs.size + 1) (exo (hp.objs.size + 1) C none)) ⟨(hp.push (PySem.W.kdv_tup us)).push (PySem.HandSPX.excO C hp.objs.size), g, dr, tk, os⟩ :=
    I1.laid (t' := tk) (a := hp.objs.size + 1) (o := exo (hp.objs.size + 1) C none) (h' := (hp.push (PySem.W.kdv_tup us)).push (PySem.HandSPX.excO C hp.objs.size)) kk hsz (exo_ok hget)
  have r2 : Vals (V.ref (hp.objs.size + 1) :: vs) (Value.ref (hp.objs.size + 1) :: us) := .cons rfl r1
  have hl : (Value.ref (hp.objs.size + 1) :: us ++ []).length = ps.length := by
    have e := r2.length
    rw [F1.len _ _ _ _ hq] at e
    rw [List.append_nil]
    exact e.symm
  have hus : us.length ≤ sizeLine := by
    rw [← Paired.length r1, sizeLine_eq]
    omega
  have b2 := hb _ (Value.ref (hp.objs.size + 1) :: us) I2.kIn hl
  rw [List.append_nil] at b2
  refine wpAny_call (PySem.HandSPX.call_own F.excBase_ValueError (fun Y => PySem.HandSPX.refsVE_contains Y bm hbm) (I1.kIn _ _ hC) (PySem.W.looks_findIn I1.kIn iC) (fun self => PySem.W.bind_fn I1.kIn self tI) hus
    (codeAny_mono (F1.run _ X.stack _ _ ⟨Value.ref (hp.objs.size + 1) :: us, []⟩ (Value.ref (hp.objs.size + 1) :: us) _ _ (fun _ _ _ => False) (hr.make C us []) (I2.env0.make C us []) b2 r2 hq) fun r s' hq' => ?_))
  cases r with
  | error er => exact hq'.elim
  | ok fl =>
    cases fl with
    | ret u =>
      obtain ⟨v, H2, os2, bare2, un2, hok2, rv, ev, d, fs, ea, ed, hd1, q2⟩ := hq'
      subst ev
      obtain ⟨h2, g2, d2, t2, os'⟩ := s'
      obtain ⟨t0, G, J, kG, ge, hoe, na⟩ := mk_end0 (d2 := d2) (t2 := t2) I1 hsz kk un2 hok2 os2 bare2 ea ed hd1
      refine ⟨rv, ⟨hp.objs.size + 1, _, _, ⟨G, g2, d2, t2, os'⟩, _, .ref C, some d, rfl, J, kG, ge, hoe, ⟨rfl, rfl, fun vs hv => ?_⟩, rfl, rfl, na, rfl, bare2, raises_own T.exC T.tyC, q2⟩⟩
      cases hv
      rfl
    | next => exact False.elim hq'
    | brk => exact False.elim hq'
    | cont => exact False.elim hq'

/-! ### the own __init__ while an exception is handled -/
section
variable {P : Program} {w : World} {K : PySem.W.Frag} {mg : Str → Option Value} {base : Heap}
theorem ok_initSH {C f cc cda : Addr} {qual : Str} {st : Stmt} {fd : FuncData} {N ps : List Str} {rest : List Stmt} {p0 p1 p2 p3 p4 p5 : Pos} {msg : Str} {j k : Nat} {ar : Arg} {sp : Sp} (I0 : IniAt P K mg C f cc cda qual st fd) (S : NScope N ps ["__class__"] (C8.fnScope st))
    (hbody : C8.fnBody st = .Expr (.Call (.Attribute (.Call (.Name "super" p0) [] [] p1) "__init__" p2) [.Constant (.str msg) j p3] [] p4) p5 :: rest) (hks : (C8.fnScope st).names.lookup ("super" : Str) = some .globalImplicit) (har : ((C8.fnArgs st).posonlyargs ++ (C8.fnArgs st).args).head? = some ar) (hself : ar.arg = "self")
    {pl : Env → Sem Bool} (he : ∀ env : Env, eval (.Call (.Attribute (.Call (.Name "super" p0) [] [] p1) "__init__" p2) [.Constant (.str msg) j p3] [] p4) env = (do
      let ov ← attributeBase (.Call (.Name "super" p0) [] [] p1) "__init__" env (eval (.Call (.Name "super" p0) [] [] p1) env)
      standAt p2.atName
      let (f, first) ← holding [ov] (getMethod ov "__init__" (pl env))
      callWith p4 f first (backTo p4 (starEach [.Constant (.str msg) j p3] env)) []))
    (hsw : ∀ env : Env, swapsWith (.Call (.Attribute (.Call (.Name "super" p0) [] [] p1) "__init__" p2) [.Constant (.str msg) j p3] [] p4) none p5.line env = pure false) (N0 : N[0]? = some ("self" : Str)) (P0 : ("self" : Str) ∈ ps) (len : ∀ vs H Q E, sp vs H Q E → vs.length = ps.length)
    (hb : ∀ (F : NF) (A : Around) (outer : List Env) (s : Shared) (H : Hp) (vs : List V) (Q : VK) (E : XK) (p : Addr × Obj), F = ⟨"__init__", qual, C8.fnArgs st, C8.fnBody st, C8.fnScope st, [("__class__", cc)], cda⟩ → sp vs H Q E →
      ∃ a, vs[0]? = some (.ref a) ∧ H a = some (exo a C none) ∧ ∃ t, PSs (ncxH CX0 P w K mg base N F f A outer s H E p) rest t ∧ t { nx := fun _ H' => Q .non H', rt := Q } (startF N vs [some (.ref C)]) H) :
    L2H.FnH P w K mg base CX0 (k + 1) f fd ps sp := by
  obtain ⟨oc, od, kV, doc, pm, ct, an, osl, rfl, lk⟩ := I0.ex
  refine ⟨len, fun A outer s H args us vs Q E p hr hot hpin e0 bind r hsp => ?_⟩
  have stays : ∀ b o, base.get? b = some o → s.heap.get? b = some o := fun b o e => (e0.bs b o e).1
  have KX : K.In s.heap := e0.mod.kin.keeps stays
  have hl := len _ _ _ _ hsp
  obtain ⟨cl, cld, csl, k1⟩ := I0.sup.cell
  have ccn : H cc = none := (e0.bs _ _ (e0.mod.kin _ _ k1)).2
  let F : NF := ⟨"__init__", qual, C8.fnArgs st, C8.fnBody st, C8.fnScope st, [("__class__", cc)], cda⟩
  have one : ∀ y c, F.cl.lookup y = some c → y = "__class__" ∧ c = cc := fun y c e => by
    have e : ([("__class__", cc)] : List (Str × Addr)).lookup y = some c := e
    rw [List.lookup_cons] at e
    split at e
    · rename_i h; exact ⟨by simpa using h, (Option.some.inj e).symm⟩
    · cases e
  have CA : CellsAt F.cl ["__class__"] [some (.ref C)] s.heap H := by
    refine ⟨rfl, fun y c e => ?_, fun x y c h1 h2 => (one x c h1).1.trans (one y c h2).1.symm, fun i y e => ?_⟩
    · obtain ⟨_, rfl⟩ := one y c e
      exact ⟨ccn, _, _, KX _ _ k1, rfl⟩
    · match i, e with
      | 0, e =>
        cases e
        refine ⟨cc, by show ([("__class__", cc)] : List (Str × Addr)).lookup ("__class__" : Str) = some cc; simp [List.lookup_cons], fun v ev => ?_⟩
        cases ev
        exact ⟨.ref C, rfl, _, KX _ _ k1, rfl⟩
      | i + 1, e => simp at e
  refine codeAny_call_function hr.depth (KX _ _ lk) rfl S.co S.gen rfl (PySem.W.codeRec_of KX I0.cd) (bind _ _ _ _ ?_)
  refine wpAny_newFunctionEnv S.nocell (fun ⟨n, _⟩ hy => S.par n (List.of_mem_zip hy).1) (fun h₁ hns hsb => ⟨(e0.mod.nolimit.keeps stays).fresh _ hsb, ?_⟩) S.kind
  show codeAny _ _ (.func F.body (envF F f s.heap.objs.size)) _ _
  have kp : ∀ b o, s.heap.get? b = some o → h₁.get? b = some o := fun b o e => hsb.extBut b o (Nat.ne_of_lt (Heap.lt_size e)) (Heap.get?_push_of_some _ e)
  obtain ⟨a, v0, ha, t, ht, hq⟩ := hb F A outer s H vs Q E p rfl hsp
  have I : Inv (ncxH CX0 P w K mg base N F f A outer s H E p) [] (startF N vs [some (.ref C)]) H { s with heap := h₁, toks := s.toks + (ps.zip us).length } := inv_startNH S hpin e0 hl r CA hns kp
  have s0 : (startF N vs [some (.ref C)])[0]? = some (some (.ref a)) := by
    match vs, v0 with
    | v :: vs, e => cases e; rfl
  refine PySem.ks_codeAny_funcAt ?_
  rw [show execs F.body (envF F f s.heap.objs.size) = execs (.Expr (.Call (.Attribute (.Call (.Name "super" p0) [] [] p1) "__init__" p2) [.Constant (.str msg) j p3] [] p4) p5 :: rest) (envF F f s.heap.objs.size) from congrArg (fun b => execs b _) hbody]
  refine PySem.ks_wpAt_execs_cons (PySem.ks_wpAt_Expr_any (wp_super (X := ncxH CX0 P w K mg base N F f A outer s H E p) (body := F.body) I0.sup lk har hself rfl rfl (by show ([("__class__", cc)] : List (Str × Addr)).lookup ("__class__" : Str) = some cc; simp [List.lookup_cons]) hks (S.frk _ (by simp)) (S.par _ P0) N0 I s0 ha (fun s' J => ?_) (he _)) (by unfold interactive; show _ = false; rw [show (envF F f s.heap.objs.size).scope.kind = .function from S.kind]; rfl) (hsw _))
  refine wpAt_of_wpAny (wpAny_mono (ht.run [] s' _ H _ J hq) (fun fl s2 hs => ?_) fun e s2 hs => hs)
  have fin : ∀ {σ' : L2.St} {H' : Hp} {v : V} {u : Value}, Inv (ncxH CX0 P w K mg base N F f A outer s H E p) [] σ' H' s2 → L2.RelV v u → Q v H' → CE outer P w H s Q u s2 :=
    fun {σ' H' v u} J rv q => ⟨v, H', J.os, J.bare, J.base, J.hok, rv, q⟩
  cases fl with
  | ret u =>
    obtain ⟨v, σ', H', J, rv, q⟩ := hs
    exact fin J rv q
  | next =>
    obtain ⟨σ', H', J, q⟩ := hs
    exact fin (v := V.non) (u := Value.none) J rfl q
  | brk => exact (hs.elim fun _ z => z.elim fun _ z => z.2.elim)
  | cont => exact (hs.elim fun _ z => z.elim fun _ z => z.2.elim)
end

/-! ### raise .. from an exception -/
/-- the heap behind «from v»: field 3 is v, field 4 is True -/
def causeFrom (h : Heap) (a : Addr) (v : Value) : Heap := (h.update a (Obj.mapFields (·.setIfInBounds 3 v))).update a (Obj.mapFields (·.setIfInBounds 4 (.bool true)))
theorem causeFrom_at {h : Heap} {a : Addr} {oe : Obj} {vs : Array Value} {v : Value} (ha : h.get? a = some oe) (hd : oe.data = .fields vs) :
    (causeFrom h a v).get? a = some ((oe.mapFields (·.setIfInBounds 3 v)).mapFields (·.setIfInBounds 4 (.bool true))) ∧ ((oe.mapFields (·.setIfInBounds 3 v)).mapFields (·.setIfInBounds 4 (.bool true))).data = .fields ((vs.setIfInBounds 3 v).setIfInBounds 4 (.bool true)) := by
  have hd3 := Obj.data_mapFields hd (·.setIfInBounds 3 v)
  have ha3 := Heap.get?_update_self (Obj.mapFields (·.setIfInBounds 3 v)) ha (Obj.isFreed_of_fields hd3)
  have hd4 := Obj.data_mapFields hd3 (·.setIfInBounds 4 (.bool true))
  exact ⟨Heap.get?_update_self (Obj.mapFields (·.setIfInBounds 4 (.bool true))) ha3 (Obj.isFreed_of_fields hd4), hd4⟩
theorem causeFrom_other {h : Heap} {a b : Addr} {v : Value} (hne : a ≠ b) : (causeFrom h a v).get? b = h.get? b := by
  unfold causeFrom
  rw [Heap.get?_update_other _ _ hne, Heap.get?_update_other _ _ hne]
theorem raise_made_hotC {prog : Program} {w : World} {A : Around} {E : Value → Shared → Prop} {env : Env} {s : Shared} {x c : Sem Value} {Q : Flow → Shared → Prop} {x1 : Addr} {Z : Shared → Prop}
    (hcs : ∀ (s : Shared) (Q' : Value → Shared → Prop), Z s → Q' (.ref x1) s → wpAny (model prog w) A c Q' E s)
    (h : wpAny (model prog w) A x (fun v s₁ => ∃ a oe vs cls oe1 vs1 cls1, v = .ref a ∧ Z s₁ ∧ s₁.heap.get? a = some oe ∧ oe.cls = cls ∧ oe.data = .fields vs ∧ vs[1]? = some .none ∧ 4 < vs.size ∧ x1 ≠ a ∧ HotAt A x1 s₁.heap ∧
      s₁.heap.get? x1 = some oe1 ∧ oe1.data = .fields vs1 ∧ oe1.cls = cls1 ∧ PySem.W.Looks (model prog w) s₁.heap (isSubtype cls1 (.type "BaseException")) true ∧
      PySem.W.Looks (model prog w) s₁.heap (isSubtype cls (.type "BaseException")) true ∧ PySem.W.Looks (model prog w) (causeFrom s₁.heap a (.ref x1)) (typeOf cls) (.type "type") ∧
      E (.ref a) { s₁ with heap := (causeFrom s₁.heap a (.ref x1)).update a (Obj.mapFields (·.setIfInBounds 2 (.ref x1))) }) E s) :
    wpAny (model prog w) A (raiseStmt env (some x) (some c)) Q E s := by
  unfold raiseStmt
  dsimp only
  refine wpAny_bind (wpAny_mono h (fun v s₁ h₁ => ?_) fun _ _ x => x)
  obtain ⟨a, oe, vs, cls, oe1, vs1, cls1, rfl, hZ, ha, hcls, hd, h1, hi, hne, hot, ha1, hd1, hcls1, L0, L1, L3, hE⟩ := h₁
  have LT : PySem.W.Looks (model prog w) s₁.heap (typeOf (.ref a)) cls := fun A Q E s k q => wpAny_typeOf_ref (k _ _ ha) (by rw [hcls]; exact q)
  have LI : PySem.W.Looks (model prog w) s₁.heap (isInstance (.ref a) (.type "BaseException")) true := LT.andThen L1
  have LT1 : PySem.W.Looks (model prog w) s₁.heap (typeOf (.ref x1)) cls1 := fun A Q E s k q => wpAny_typeOf_ref (k _ _ ha1) (by rw [hcls1]; exact q)
  have LI1 : PySem.W.Looks (model prog w) s₁.heap (isInstance (.ref x1) (.type "BaseException")) true := LT1.andThen L0
  have hnt : ∀ {Q' : Bool → Shared → Prop}, Q' false s₁ → wpAny (model prog w) A (isType (.ref a)) Q' E s₁ := by
    intro Q' hq
    simp only [isType, loadHead]
    refine wpAny_bind (wpAny_loadPart ha ?_)
    rw [hd]; exact wpAny_pure hq
  have hnt1 : ∀ {Q' : Bool → Shared → Prop}, Q' false s₁ → wpAny (model prog w) A (isType (.ref x1)) Q' E s₁ := by
    intro Q' hq
    simp only [isType, loadHead]
    refine wpAny_bind (wpAny_loadPart ha1 ?_)
    rw [hd1]; exact wpAny_pure hq
  have hd3 := Obj.data_mapFields hd (·.setIfInBounds 3 (.ref x1))
  have ha3 := Heap.get?_update_self (Obj.mapFields (·.setIfInBounds 3 (.ref x1))) ha (Obj.isFreed_of_fields hd3)
  obtain ⟨ha4, hd4⟩ := causeFrom_at (v := .ref x1) ha hd
  have s3 : 3 < vs.size := by omega
  have s4 : 4 < (vs.setIfInBounds 3 (Value.ref x1)).size := by rw [set_size]; exact hi
  have s2 : 2 < ((vs.setIfInBounds 3 (Value.ref x1)).setIfInBounds 4 (Value.bool true)).size := by rw [set_size, set_size]; omega
  have h14 : ((vs.setIfInBounds 3 (Value.ref x1)).setIfInBounds 4 (Value.bool true))[1]? = some Value.none := set_other (by decide) (set_other (by decide) h1)
  have hcls4 : ((oe.mapFields (·.setIfInBounds 3 (.ref x1))).mapFields (·.setIfInBounds 4 (.bool true))).cls = cls := by rw [Obj.cls_mapFields, Obj.cls_mapFields]; exact hcls
  have LT4 : PySem.W.Looks (model prog w) (causeFrom s₁.heap a (.ref x1)) (typeOf (.ref a)) cls := fun A Q E s k q => wpAny_typeOf_ref (k _ _ ha4) (by rw [hcls4]; exact q)
  have hnt4 : ∀ {Q' : Bool → Shared → Prop}, Q' false { s₁ with heap := causeFrom s₁.heap a (.ref x1) } → wpAny (model prog w) A (isType (.ref a)) Q' E { s₁ with heap := causeFrom s₁.heap a (.ref x1) } := by
    intro Q' hq
    simp only [isType, loadHead]
    refine wpAny_bind (wpAny_loadPart ha4 ?_)
    rw [hd4]; exact wpAny_pure hq
  have hot4 : HotAt A x1 (causeFrom s₁.heap a (.ref x1)) := by
    obtain ⟨q1, o, vs', q2, q3, q4⟩ := hot
    exact ⟨q1, o, vs', by rw [causeFrom_other (Ne.symm hne)]; exact q2, q3, q4⟩
  have rest : wpAny (model prog w) A (do
      let b ← isType (.ref a)
      if b = true then do
        let e ← holding [.ref a] (raisedFor (.ref a) (.ref a))
        setFlight e none
        raiseNew e
      else do
        let e ← raisedInstance (.ref a)
        setFlight e none
        raiseNew e : Sem Flow) Q E { s₁ with heap := causeFrom s₁.heap a (.ref x1) } := by
    refine wpAny_bind (hnt4 ?_)
    simp only [Bool.false_eq_true, if_false]
    unfold raisedInstance
    refine wpAny_bind (wpAny_bind (LT4.here (wpAny_bind (L3.here ?_))))
    rw [if_pos (beq_self_eq_true _)]
    refine wpAny_pure ?_
    unfold setFlight
    refine wpAny_bind (wpAny_bind (wpAny_field ha4 hd4 h14 ?_))
    rw [if_neg (by decide)]
    refine wpAny_pure ?_
    exact raiseNew_hot hot4 hne ha4 hd4 s2 hE
  refine wpAny_bind (wpAny_holding (hcs _ _ hZ (wpAny_bind (wpAny_pure ?_))))
  dsimp only
  refine wpAny_bind (wpAny_holding ?_)
  unfold excFromValue isExcClass
  refine wpAny_bind (wpAny_bind (hnt ?_))
  simp only [Bool.false_eq_true, if_false]
  refine wpAny_pure ?_
  simp only [Bool.false_eq_true, if_false]
  refine wpAny_bind (LI.here ?_)
  simp only [if_true]
  refine wpAny_pure ?_
  have nb : ¬ ((Value.ref x1 == Value.none) = true) := by simp
  rw [if_neg nb]
  refine wpAny_bind (wpAny_holding ?_)
  refine wpAny_bind (wpAny_bind (hnt1 ?_))
  simp only [Bool.false_eq_true, if_false]
  refine wpAny_pure ?_
  simp only [Bool.false_eq_true, if_false]
  refine wpAny_bind (LI1.here ?_)
  simp only [if_true]
  refine wpAny_pure ?_
  first
  | exact wpAny_bind (wpAny_setField ha hd s3 (wpAny_bind (wpAny_setField ha3 hd3 s4 rest)))
  | exact wpAny_bind (wpAny_bind (wpAny_setField ha hd s3 (wpAny_bind (wpAny_setField ha3 hd3 s4 rest))))
  | exact wpAny_bind (wpAny_bind (wpAny_setField ha hd s3 (wpAny_setField ha3 hd3 s4 rest)))
def RaK (K : PySem.W.Frag) (cls : Value) : Prop := PySem.W.subIn K cls (.type "BaseException") = some true ∧ PySem.W.typeIn K cls = some (.type "type")
/-- raise C(e, ..) from n, n the exception that is handled -/
theorem ps_raiseHC {X : Cx} {W : WX} {e : Expr} {t : L2.St → Hp → XK → Prop} {p : Addr × Obj} {i : Nat} {n : Str} {cpos pos : Pos} {cls1 : Value} (hz1 : p.2.cls = cls1) (hot : L2H.Hot1 X.A p) (hp : p ∈ X.pn) (tk : L2.Takes X W) (he : L2H.PMk5 X e t)
    (hN : X.N[i]? = some n) (hln : X.env.kindOf n = some .local) (hdb : (n == ("__debug__" : Str)) = false := by decide) :
    PS X (.Raise (some e) (some (.Name n cpos)) pos) (fun _ σ H => RaK X.K cls1 ∧ σ[i]? = some (some (.ref p.1)) ∧ t σ H fun cls d H' => σ[i]? = some (some (.ref p.1)) → W cls d σ H') := by
  refine ⟨fun pins s σ H D I h => ?_⟩
  obtain ⟨hr0, hsi, h⟩ := h
  have hr1 : Raises X p.2.cls := by rw [hz1]; exact raises_own hr0.1 hr0.2
  obtain ⟨hh, v1, e1, c1⟩ := hot
  show wpAny _ _ (do standAt pos; raiseStmt X.env (some (do let v ← eval e X.env; standAt pos; pure v)) (some (do let v ← eval (.Name n cpos) X.env; standAt pos; pure v))) _ _ _
  refine wpAny_bind (wpAny_standAt (raise_made_hotC (x1 := p.1) (Z := fun s2 => ∃ m, s2.heap.Ns X.env.locals m ∧ m n = some (.ref p.1)) (fun s2 Q2 hz q2 => ?_) (wpAny_bind (wpAny_mono (he pins s σ H _ I h) (fun u s1 hu => wpAny_bind (wpAny_standAt (wpAny_pure ?_))) fun _ _ x => x))))
  · obtain ⟨m, hn, hm⟩ := hz
    exact wpAny_bind (wpAny_Name (wpAny_loadName_local I.ok.kind hln hn hm (wpAny_bind (wpAny_standAt (wpAny_pure q2)))) hdb)
  obtain ⟨⟨a, oe, vs, sI, H', cls, d, rfl, J, k, hne, ha, hz, hd, h1, na, os, ag, r, q⟩, h5⟩ := hu
  have hi : 4 < vs.size := h5 a oe vs rfl ha hd
  have k4 : ∀ b u, sI.heap.get? b = some u → (causeFrom s1.heap a (.ref p.1)).get? b = some u := fun b u z => by
    have nab : a ≠ b := fun y => by
      rw [← y, hne] at z
      cases z
    rw [causeFrom_other nab]
    exact k b u z
  obtain ⟨r1, _⟩ := r (model X.prog X.w) s1.heap (J.kIn.keeps k)
  obtain ⟨_, r2⟩ := r (model X.prog X.w) (causeFrom s1.heap a (.ref p.1)) (J.kIn.keeps k4)
  obtain ⟨r0, _⟩ := hr1 (model X.prog X.w) s1.heap (J.kIn.keeps k)
  have P1 := (J.pin p (List.mem_append_left _ hp)).1
  have nap : p.1 ≠ a := fun z => by
    rw [z, hne] at P1
    cases P1
  obtain ⟨ha4, hd4⟩ := causeFrom_at (v := .ref p.1) ha hd
  have h12 : (((vs.setIfInBounds 3 (Value.ref p.1)).setIfInBounds 4 (Value.bool true)).setIfInBounds 2 (Value.ref p.1))[1]? = some Value.none := set_other (by decide) (set_other (by decide) (set_other (by decide) h1))
  have hloc : ∃ m, s1.heap.Ns X.env.locals m ∧ m n = some (.ref p.1) := by
    obtain ⟨m, hn, hl⟩ := J.loc
    obtain ⟨u, ru, l⟩ := hl i n _ hN hsi (.inl hln)
    obtain rfl : u = Value.ref p.1 := ru
    rcases l with ⟨_, hm⟩ | ⟨hk, _⟩
    · exact ⟨m, hn.keeps k, hm⟩
    · rcases hk with hk | hk <;> (rw [hln] at hk; cases hk)
  refine ⟨a, oe, vs, cls, p.2, v1, p.2.cls, rfl, hloc, ha, hz.1, hd, h1, hi, nap, ⟨hh, p.2, v1, k _ _ P1, e1, c1⟩, k _ _ P1, e1, rfl, r0, r1, r2, tk _ _ (L2.XE.new J (fun b u z => ?_) hne (Heap.get?_update_self _ ha4 (Obj.isFreed_of_fields (Obj.data_mapFields hd4 _)))
    ⟨by rw [Obj.cls_mapFields, Obj.cls_mapFields, Obj.cls_mapFields]; exact hz.1, by rw [HandSPX.dict_mapFields, HandSPX.dict_mapFields, HandSPX.dict_mapFields]; exact hz.2.1⟩ (Obj.data_mapFields hd4 _) h12 na os ag (q hsi))⟩
  have nab : a ≠ b := fun y => by
    rw [← y, hne] at z
    cases z
  show ((causeFrom s1.heap a (.ref p.1)).update a (Obj.mapFields (·.setIfInBounds 2 (.ref p.1)))).get? b = some u
  rw [Heap.get?_update_other _ _ nab]
  exact k4 b u z

/-! ### try: body, except x as n: a suite that raises -/
/-- the context of such a suite -/
abbrev suiteY (X : Cx) (a : Addr) (pn : List (Addr × Obj)) (xe : Value → Shared → Prop) : Cx := { X with A := X.A.mark (some (.ref a)), calm := false, pn := pn, xe := xe }
def noEnds : Ends := { nx := fun _ _ => False, rt := fun _ _ => False }
def wAsX (K : PySem.W.Frag) (c : Value) (i : Nat) (ts : Addr → Value → Option Addr → TS) : WX := fun cls d σ H => PySem.W.exmOne K cls c = some true ∧ ∀ a, H a = none → ts a cls d noEnds (σ.set i (some (.ref a))) H
section
variable {X : Cx} {x n : Str} {c : Value} {i : Nat} {body suite : List Stmt} {b₀ : Stmt} {np pos pos' : Pos} {tb : WX → TS} {ts : Addr → Value → Option Addr → TS} {Wout : WX}
/-- what runs behind an exception of the suite -/
def behindAs (X : Cx) (a : Addr) (n : Str) (pos' : Pos) (x : Value) (s : Shared) : Prop :=
  wpAny (model X.prog X.w) (X.A.mark (some (.ref a))) (noteFrame x X.env) (fun _ s3 => wpAny (model X.prog X.w) (X.A.mark (some (.ref a))) (do bindName X.env n .none; unbindBehindTheSuite X.env n pos')
    (fun _ s4 => wpAny (model X.prog X.w) (X.A.mark (some (.ref a))) (passOn "try.except-as" x X.env : Sem Flow) (fun _ _ => False) X.xe s4)
    (fun _ _ => False) s3) (fun _ _ => False) s
theorem as_exc {pins : List (Addr × Obj)} {u : Value} {s' : Shared} {a1 : Addr} {o1 : Obj} (hs : X.stack = X.env :: X.outer) (hf : X.env.frame = some X.env.locals) (hex : X.ex = []) (hN : X.N.Nodup) (hi : X.N[i]? = some n) (hln : X.env.kindOf n = some .local) (ok : X.Ok) (tk : L2.Takes X Wout)
    (hWo : ∀ cls d σ H, Wout cls d σ H → Wout cls d (σ.set i none) H) {xe : Value → Shared → Prop}
    (xx : L2.XE (suiteY X a1 ((a1, o1) :: (X.pn ++ pins)) xe) Wout u s') : behindAs X a1 n pos' u s' := by
  have hfr : (X.A.mark (some (.ref a1))).frames = some (X.env :: X.outer) := by
    show X.A.frames = _
    rw [ok.frames, hs]
  obtain ⟨a, B, sI, pins', σ', H', cls, d, rfl, J', nb, up, sky, na, os, ag, hw⟩ := xx
  have J : Inv X pins σ' H' sI := ⟨ok, J'.os, J'.bare, J'.base, J'.loc, J'.cell, J'.free, J'.freeC, fun p hp => J'.pin p (List.mem_append_left _ (List.mem_cons_of_mem _ hp)), J'.hok, J'.len⟩
  have nb : ∀ b o, sI.heap.get? b = some o → b ∉ frs X.stack → B.get? b = some o := nb
  have sky' : Sky B (X.env :: X.outer) a (Zc cls d) X.env.locals s'.heap := by rw [← hs]; exact sky
  have fin : ∀ h1, HandSPX.HeldZ B (X.env :: X.outer) a (Zc cls d) X.env.locals h1 → s'.heap.UpToSlots h1 →
      wpAny (model X.prog X.w) (X.A.mark (some (.ref a1))) (do bindName X.env n .none; unbindBehindTheSuite X.env n pos') (fun _ s4 => wpAny (model X.prog X.w) (X.A.mark (some (.ref a1))) (passOn "try.except-as" (.ref a) X.env : Sem Flow) (fun _ _ => False) X.xe s4) (fun _ _ => False) { s' with heap := h1 } := fun h1 hh1 up1 => by
    have J3 : Inv X pins σ' H' { s' with heap := h1 } := J.landed nb hh1.1 (up.trans up1) os ag
    obtain ⟨k1, k2, k3, oe, vs, T, oT, ts, he3, hz, hd, hv1, hnT, hTe, hT, hdT, ht3⟩ := id hh1
    have nT : H' T = none := (J.inGround nb).gone hnT
    have notFr : ∀ (b : Addr) (o : Obj) (fv : Array Value), h1.get? b = some o → o.data = .fields fv → b ∉ frs (X.env :: X.outer) := fun b o fv e dd hm => by
      obtain ⟨_, o', e', hnf⟩ := k3.mem hm
      have eo : o = o' := Option.some.inj (e.symm.trans e')
      rw [← eo] at hnf
      exact hnf _ dd
    have locF : X.env.locals ∈ frs (X.env :: X.outer) := List.mem_filterMap.mpr ⟨X.env, List.mem_cons_self, hf⟩
    have fsF : ∀ b, b ∈ X.fs → b ∈ frs (X.env :: X.outer) := fun b hm => by
      obtain ⟨e, he, q⟩ := List.mem_filterMap.mp hm
      exact List.mem_filterMap.mpr ⟨e, List.mem_cons_of_mem _ he, q⟩
    have fa := notFr a oe vs he3 hd
    have fT := notFr T oT ts hT hdT
    have S3 : Inv (X.suite a ((a, oe) :: (T, oT) :: (X.pn ++ pins))) [] σ' H' { s' with heap := h1 } :=
      ⟨J3.ok.suite _ _, J3.os, J3.bare, J3.base, J3.loc, J3.cell, J3.free, J3.freeC, fun p hp => by
        rw [List.append_nil] at hp
        rcases List.mem_cons.mp hp with z | hp
        · rw [z]
          exact ⟨he3, na, fun z2 => fa (by rw [show a = X.env.locals from z2]; exact locF), fun z2 => fa (fsF _ z2), fun v z2 => by
            have z3 : oe.data = .cell v := z2
            rw [hd] at z3
            cases z3⟩
        · rcases List.mem_cons.mp hp with z | hp
          · rw [z]
            exact ⟨hT, nT, fun z2 => fT (by rw [show T = X.env.locals from z2]; exact locF), fun z2 => fT (fsF _ z2), fun v z2 => by
              have z3 : oT.data = .cell v := z2
              rw [hdT] at z3
              cases z3⟩
          · exact J3.pin p hp, J3.hok, J3.len⟩
    refine gone_ok (X := X.suite a ((a, oe) :: (T, oT) :: (X.pn ++ pins))) S3 hN hi hln fun s6 S6 => ?_
    obtain ⟨σ6, e6⟩ : ∃ σ6, σ6 = σ'.set i none := ⟨_, rfl⟩
    rw [← e6] at S6
    have J6 : Inv X pins σ6 H' s6 := ⟨ok, S6.os, S6.bare, S6.base, S6.loc, S6.cell, S6.free, S6.freeC, fun p hp => S6.pin p (List.mem_append_left _ (List.mem_cons_of_mem _ (List.mem_cons_of_mem _ hp))), S6.hok, S6.len⟩
    have pa := S6.pin (a, oe) (List.mem_append_left _ List.mem_cons_self)
    have pT := S6.pin (T, oT) (List.mem_append_left _ (List.mem_cons_of_mem _ List.mem_cons_self))
    have ga : s6.heap.get? a = some oe := pa.1
    have gT : s6.heap.get? T = some oT := pT.1
    have far : ∀ b o, sI.heap.get? b = some o → b ≠ a ∧ b ≠ T := fun b o e => by
      by_cases hb : b ∈ frs X.stack
      · rw [hs] at hb
        exact ⟨fun z => fa (by rw [← z]; exact hb), fun z => fT (by rw [← z]; exact hb)⟩
      · have q := nb b o e hb
        exact ⟨fun z => by
          rw [z, k2] at q
          exact (nomatch q), fun z => by
          rw [z, hnT] at q
          cases q⟩
    have far0 : ∀ b o, X.s_0.heap.get? b = some o → b ≠ a ∧ b ≠ T := fun b o e => by
      obtain ⟨o', q⟩ := J.base.there b o e (by rw [hex]; simp)
      exact far b o' q
    have farP : ∀ p ∈ X.pn ++ pins, p.1 ≠ a ∧ p.1 ≠ T := fun p hp => far p.1 p.2 (J.pin p hp).1
    obtain ⟨G, g1, g2⟩ := restrict s6.heap fun b => !(decide (b = a) || decide (b = T))
    have gIn : ∀ b o, G.get? b = some o → s6.heap.get? b = some o ∧ b ≠ a ∧ b ≠ T := fun b o e => by
      cases q : (!(decide (b = a) || decide (b = T))) with
      | false =>
        rw [g2 b q] at e
        cases e
      | true =>
        rw [g1 b q] at e
        simp only [Bool.not_eq_true', Bool.or_eq_false_iff, decide_eq_false_iff_not] at q
        exact ⟨e, q.1, q.2⟩
    have gOf : ∀ b o, b ≠ a → b ≠ T → s6.heap.get? b = some o → G.get? b = some o := fun b o h1 h2 e => by
      rw [g1 b (by simp [h1, h2])]
      exact e
    have I6 : Inv X pins σ6 H' { s6 with heap := G } := J6.less (fun b o e => (gIn b o e).1) gOf ⟨oe, vs, ga, hd⟩ ⟨oT, ts, gT, hdT⟩ na nT far0 farP
    have B6in : ∀ b o, (PySem.W.hideAll G (frs X.stack)).get? b = some o → s6.heap.get? b = some o := fun b o e => (gIn b o (PySem.W.of_hideAll _ e)).1
    have Bno : ∀ b, (b = a ∨ b = T) → (PySem.W.hideAll G (frs X.stack)).get? b = none := fun b hb => by
      cases q : (PySem.W.hideAll G (frs X.stack)).get? b with
      | none => rfl
      | some o =>
        obtain ⟨_, n1, n2⟩ := gIn b o (PySem.W.of_hideAll _ q)
        rcases hb with z | z
        · exact absurd z n1
        · exact absurd z n2
    have ff : s6.heap.FunFrames (PySem.W.hideAll G (frs X.stack)) (X.env :: X.outer) := by
      have ff := funFrames_none (B := PySem.W.hideAll G (frs X.stack)) J6.stack fun b hb => PySem.W.hideAll_none _ hb
      rw [← hs]
      exact ff
    have tr : HandSPX.TracedZ s6.heap (PySem.W.hideAll G (frs X.stack)) a (Zc cls d) (rawInt X.env.locals) := ⟨oe, vs, T, oT, ts, ga, hz, hd, hv1, Bno T (.inr rfl), hTe, gT, hdT, ht3⟩
    unfold PySem.passOn
    refine wpAny_bind (wpAny_field ga hd hv1 ?_)
    rw [if_neg (show ¬ ((Value.ref T == Value.none) = true) from by simp)]
    have goOn : wpAny (model X.prog X.w) (X.A.mark (some (.ref a1))) (setFlight (.ref a) X.env.frame) (fun _ s7 => wpAny (model X.prog X.w) (X.A.mark (some (.ref a1))) (throw (.ref a) : Sem Flow) (fun _ _ => False) X.xe s7) X.xe s6 := by
      rw [hf]
      refine HandSPX.setFlight_anyZ B6in ff tr fun h7 q1 q2 q3 up7 => wpAny_throw (tk _ _ ?_)
      refine ⟨a, PySem.W.hideAll G (frs X.stack), { s6 with heap := G }, pins, _, H', cls, d, rfl, I6, fun b o e hb => PySem.W.hideAll_get _ e hb, ?_, .inr (.inr (show HandSPX.HeldZ (PySem.W.hideAll G (frs X.stack)) X.stack a (Zc cls d) X.env.locals h7 from ⟨q1, Bno a (.inl rfl), by rw [hs]; rw [hs] at q2; exact q2, q3⟩)), na, rfl, J6.bare, ?_⟩
      · exact Heap.UpToSlots.trans (Heap.UpToSlots.of_keeps fun b o e => (gIn b o e).1) up7
      · rw [e6]; exact hWo _ _ _ _ hw
    first
      | exact wpAny_bind (wpAny_pure (wpAny_bind goOn))
      | exact wpAny_bind goOn
  show wpAny (model X.prog X.w) _ (noteFrame (.ref a) X.env) _ _ _
  rcases sky' with ⟨hB, hn, hl, oe, vs, he0, hz, hd, hv1⟩ | fl | hh
  · exact HandSPX.look_newZ Zc.steady hfr hl hf he0 hB hn hd hv1 hz fin
  · exact HandSPX.looks_onZ Zc.steady hfr hf fl fin
  · exact HandSPX.againZ hf hh.2.2.2 (fin s'.heap hh (Heap.UpToSlots.refl _))
/-- the whole statement -/
theorem ps_try_asX (hs : X.stack = X.env :: X.outer) (hf : X.env.frame = some X.env.locals) (hex : X.ex = []) (hN : X.N.Nodup) (hi : X.N[i]? = some n) (hln : X.env.kindOf n = some .local) (hc : Names X x c)
    (hpa : ∀ hd : Option Value, PassesOwnAt (model X.prog X.w) (X.A.mark hd) X.A X.env X.xe) (tk : L2.Takes X Wout) (hWo : ∀ cls d σ H, Wout cls d σ H → Wout cls d (σ.set i none) H)
    (hb : ∀ (W : WX) (pn : List (Addr × Obj)) (xe : Value → Shared → Prop), L2N.Takes (X.tr pn xe) W → PassesOwn (model X.prog X.w) X.A X.env xe → PSs (X.tr pn xe) body (tb W))
    (hsu : ∀ (a : Addr) (oe : Obj) (cls : Value) (d : Option Addr) (pn : List (Addr × Obj)) (xe : Value → Shared → Prop), L2N.Zn cls d oe → L2.Takes (suiteY X a ((a, oe) :: pn) xe) Wout → L2H.Hot1 (X.A.mark (some (.ref a))) (a, oe) → PSs (suiteY X a ((a, oe) :: pn) xe) (b₀ :: suite) (ts a cls d)) :
    PS X (.Try body [.ExceptHandler (some (.Name x np)) (some n) (b₀ :: suite) pos'] [] [] pos) (fun D σ H => tb (wAsX X.K c i ts) D σ H) := by
  refine ⟨fun pins s σ H D I h => ?_⟩
  have ok := I.ok
  have hfr : X.A.frames = some (X.env :: X.outer) := by rw [ok.frames, hs]
  have hloc : Loc X.env.scope n := .inl hln
  refine wpAny_Try_except ?_
  refine wpAny_mono ((hb (wAsX X.K c i ts) (X.pn ++ pins) (fun e s₁ => wpAny (model X.prog X.w) X.A (noteFrame e X.env) (fun _ s₂ => wpAny (model X.prog X.w) X.A (setFlight e none) (fun _ s₃ =>
    wpAny (model X.prog X.w) X.A (handleBy e X.env [.ExceptHandler (some (.Name x np)) (some n) (b₀ :: suite) pos']) (SP X pins D) X.xe s₃) X.xe s₂) X.xe s₁) (fun u s' xx => ?_) PassesOwn.looking).run [] s σ H D (I.toTry _) h) (fun f s1 hsp => ?_) (fun e s1 he => he)
  · obtain ⟨a, B, sI, pins', σ', H', cls, d, rfl, J', nb, up, sky, na, os, ag, hb1, hyes⟩ := xx
    have J : Inv X pins σ' H' sI := J'.ofTry ok
    have sky' : Sky B (X.env :: X.outer) a (L2N.Zn cls d) X.env.locals s'.heap := by rw [← hs]; exact sky
    show wpAny (model X.prog X.w) X.A (noteFrame (.ref a) X.env) _ _ _
    refine L2N.Sky.land L2N.Zn.steady hfr hf sky' fun h3 fl3 up3 => ?_
    have J3 : Inv X pins σ' H' { s' with heap := h3 } := J.landed nb fl3.1 (up.trans up3) os ag
    obtain ⟨oe3, vs3, he3, hz3, hd3⟩ := fl3.there
    have notFr : ∀ {B h : Heap} {a : Addr} {o : Obj} {vs : Array Value}, h.FunFrames B (X.env :: X.outer) → h.get? a = some o → o.data = .fields vs → a ∉ frs (X.env :: X.outer) := fun {B h a o vs} ff e dd hm => by
      obtain ⟨_, o', e', hnf⟩ := ff.mem hm
      rw [e] at e'; cases e'
      exact hnf _ dd
    have nfr : a ∉ frs (X.env :: X.outer) := notFr fl3.2.2.1 he3 hd3
    have nL : a ≠ X.env.locals := fun z => nfr (List.mem_filterMap.mpr ⟨X.env, List.mem_cons_self, by rw [hf, z]⟩)
    have nF : a ∉ X.fs := fun hm => by
      obtain ⟨e, he, q⟩ := List.mem_filterMap.mp hm
      exact nfr (List.mem_filterMap.mpr ⟨e, List.mem_cons_of_mem _ he, q⟩)
    have S3 := J3.suite he3 hd3 na nL nF
    refine wpAny_handleBy_cons (codeAny_handlers_test ?_) (by intro q; cases q)
    have LT : PySem.W.Looks (model X.prog X.w) h3 (typeOf (.ref a)) cls := fun A Q E s k q => wpAny_typeOf_ref (k _ _ he3) (by rw [hz3.1]; exact q)
    have LM := PySem.W.exm_one (M := model X.prog X.w) (J3.kIn) LT hb1
    have test : ∀ {Q : Value → Shared → Prop} {E : Value → Shared → Prop}, Q c { s' with heap := h3 } → wpAny (model X.prog X.w) (X.A.mark (some (.ref a))) (eval (.Name x np) X.env) Q E { s' with heap := h3 } := fun {Q E} q => by
      obtain ⟨hg, hdbg, hm | ⟨hm, hv, hnn⟩⟩ := hc
      · exact ld_glob (X := X.suite a ((a, oe3) :: (X.pn ++ pins))) S3 hg hm q hdbg
      · exact ld_blt (X := X.suite a ((a, oe3) :: (X.pn ++ pins))) S3 hg hm hv q hnn hdbg
    refine test (LM.here ?_)
    refine codeAny_handlers_suite_as ?_
    refine HandSPX.lands_againZ fl3 fun h4 fl4 up4 => ?_
    have J4 : Inv X pins σ' H' { s' with heap := h4 } := J.landed nb fl4.1 ((up.trans up3).trans up4) os ag
    obtain ⟨oe4, vs4, he4, hz4, hd4⟩ := fl4.there
    have S4 := J4.suite he4 hd4 na nL nF
    have S4' : Inv (suiteY X a ((a, oe4) :: (X.pn ++ pins)) (behindAs X a n pos')) [] σ' H' { s' with heap := h4 } := Inv.unwish (X := suiteY X a ((a, oe4) :: (X.pn ++ pins)) (behindAs X a n pos')) (E := fun _ _ => False) S4
    refine store_ok (X := suiteY X a ((a, oe4) :: (X.pn ++ pins)) (behindAs X a n pos')) (v := .ref a) S4' hN hi hloc rfl (fun s5 S5 => ?_) (.inr hln)
    have tkS : L2.Takes (suiteY X a ((a, oe4) :: (X.pn ++ pins)) (behindAs X a n pos')) Wout := fun u2 s2 x2 => as_exc hs hf hex hN hi hln ok tk hWo x2
    refine wpAny_mono ((hsu a oe4 cls d (X.pn ++ pins) (behindAs X a n pos') hz4 tkS ⟨rfl, vs4, hd4, hz4.2.2 vs4 hd4⟩).run [] s5 _ H' noEnds S5 (hyes a na)) (fun f s6 hsp => ?_) (fun e6 s6 z => ?_)
    · cases f with
      | next => exact (hsp.elim fun _ z => z.elim fun _ z => z.2.elim)
      | brk => exact (hsp.elim fun _ z => z.elim fun _ z => z.2.elim)
      | cont => exact (hsp.elim fun _ z => z.elim fun _ z => z.2.elim)
      | ret u => exact (hsp.elim fun _ z => z.elim fun _ z => z.elim fun _ z => z.2.2.elim)
    · have z : behindAs X a n pos' e6 s6 := z
      refine wpAny_mono z (fun _ s7 z7 => ?_) (fun _ _ z => z.elim)
      refine wpAny_mono z7 (fun _ s8 z8 => ?_) (fun _ _ z => z.elim)
      exact wpAny_mono z8 (fun _ _ z => z.elim) fun e9 s9 z9 => hpa (some (.ref a)) e9 s9 z9
  · cases f with
    | next =>
      obtain ⟨σ', H', J', q⟩ := hsp
      exact wpAny_execs_nil ⟨σ', H', J'.ofTry ok, q⟩
    | brk =>
      obtain ⟨σ', H', J', q⟩ := hsp
      exact ⟨σ', H', J'.ofTry ok, q⟩
    | cont =>
      obtain ⟨σ', H', J', q⟩ := hsp
      exact ⟨σ', H', J'.ofTry ok, q⟩
    | ret u =>
      obtain ⟨v, σ', H', J', r, q⟩ := hsp
      exact ⟨v, σ', H', J'.ofTry ok, r, q⟩
end
end RS

/-! Ini6: BadText made while an exception is handled. -/
namespace RS
open PySem PySem.Spec PyProof.Rows L2 NdefX
/-- an own exception class with an own __init__, made while an exception is handled -/
structure MkH (P : Program) (w : World) (K : PySem.W.Frag) (mg : Str → Option Value) (base : Heap) (x : Str) (C : Addr) (k : Nat) (ps : List Str) (sp : Sp) : Prop where
  oex : OexC K C
  ex : ∃ fI fd, PySem.W.findIn K (.ref C) "__init__" = some (some (.ref fI)) ∧ PySem.W.typeIn K (.ref fI) = some (.type "function") ∧ L2H.FnH P w K mg base CX0 k fI fd ps sp ∧ Binds K fd ps []
  mgx : mg x = some (.ref C)
theorem pmk5_mkH {X : Cx} {x : Str} {C : Addr} {j k : Nat} {ps : List Str} {sp : Sp} {e : Expr} {es : List Expr} {ta : TA} {p pos : Pos} (M : MkH X.prog X.w X.K X.mg X.base x C j ps sp) (hr : L2H.RoomH k X.A) (hk : j + 1 ≤ k) (hc : L2H.HotC X) (ha : PA X (e :: es) ta) (hg : Gl X x := by rfl)
    (hdb : (x == ("__debug__" : Str)) = false := by decide) (he : starEach (e :: es) X.env = (false, eval e X.env) :: starEach es X.env := by rfl) (hpl : (backTo pos (starEach es X.env)).any (·.1) = false := by rfl) :
    L2H.PMk5 X (.Call (.Name x p) (e :: es) [] pos) (tMkO C sp [] ta) := by
  obtain ⟨fI, fd, iC, tI, F1, hb⟩ := M.ex
  exact L2H.pmk5_oexH M.oex iC tI F1 (hr.mono hk) hc hb pass0 hg M.mgx ha hdb he hpl
section
variable {P : Program} {w : World} {K : PySem.W.Frag} {mg : Str → Option Value} {base : Heap}
theorem okh_BadText {C f cc cda : Addr} {qual : Str} {fd : FuncData} (I0 : IniAt P K mg C f cc cda qual (iniS 16) fd) (no0 : PySem.W.findIn K (.ref C) "at" = some none) :
    L2H.FnH P w K mg base CX0 1 f fd ["self", "at"] (spIni C (fs1 "at") 1) := by
  have S : NScope ["self", "at", "__class__"] ["self", "at"] ["__class__"] (C8.fnScope (iniS 16)) := nscope_by (by decide +kernel)
  have nd := S.nd
  refine ok_initSH I0 S rfl (by decide +kernel) rfl rfl (fun _ => rfl) (fun _ => rfl) rfl (by decide) (fun vs H Q E h => ?_) (fun F A outer s H vs Q E p hF h => ?_)
  · obtain ⟨a, ws, rfl, h, _⟩ := h.ex; simp [h]
  · obtain ⟨a, ws, rfl, hl, ha, k⟩ := h.ex
    match ws, hl with
    | [v], _ =>
    subst hF
    refine ⟨a, rfl, ha, _, pss_one (ps_ost (pv 0) (pv 1)), ?_⟩
    refine ⟨_, rfl, _, rfl, a, C, rfl, I0.sup.oex, no0, .inl ⟨ha, fun d hd ne => ?_⟩⟩
    refine k d _ hd ne upd_same ?_ (fun b o hb e => ?_)
    · rw [upd_ne ne, upd_same]; rfl
    · rw [upd_ne hb, upd_ne (ne_of_none e hd)]; exact e
theorem mkh_BadText {C f cc cda : Addr} {qual : Str} {fd : FuncData} (I0 : IniAt P K mg C f cc cda qual (iniS 16) fd) (no0 : PySem.W.findIn K (.ref C) "at" = some none) (iC : PySem.W.findIn K (.ref C) "__init__" = some (some (.ref f))) (tI : PySem.W.typeIn K (.ref f) = some (.type "function")) (m : mg "BadText" = some (.ref C)) :
    MkH P w K mg base "BadText" C 1 ["self", "at"] (spIni C (fs1 "at") 1) := by
  have O := okh_BadText (P := P) (w := w) (mg := mg) (base := base) I0 no0
  obtain ⟨oc, od, kV, doc, pm, ct, an, osl, rfl, lk⟩ := I0.ex
  exact ⟨I0.sup.oex, ⟨f, _, iC, tI, O, .all fun us hl => match us, hl with | [_, _], _ => rfl⟩, m⟩
end
end RS

/-! Draws: the source of draws that every law has: a dict with two lists and two ints; what a draw changes and gives. -/
namespace RS
open PySem PySem.Spec PyProof.Rows L2

/-! ### the state -/
def kS (x : Str) : Key := Sum.inr x
def stk (g c : Addr) (l t : Int) : List (Key × V) := [(kS "great", .ref g), (kS "cells", .ref c), (kS "left", .int l), (kS "turn", .int t)]
theorem dget_great {H : Hp} {d g c : Addr} {l t : Int} (h : H d = some (.dK (stk g c l t))) : DGet H d (.str "great") (some (.ref g)) := .inl ⟨_, kS "great", .inl h, rfl, by simp [stk, valV, kS]⟩
theorem dget_cells {H : Hp} {d g c : Addr} {l t : Int} (h : H d = some (.dK (stk g c l t))) : DGet H d (.str "cells") (some (.ref c)) := .inl ⟨_, kS "cells", .inl h, rfl, by simp +decide [stk, valV, kS, List.find?_cons]⟩
theorem dget_left {H : Hp} {d g c : Addr} {l t : Int} (h : H d = some (.dK (stk g c l t))) : DGet H d (.str "left") (some (.int l)) := .inl ⟨_, kS "left", .inl h, rfl, by simp +decide [stk, valV, kS, List.find?_cons]⟩
theorem dget_turn {H : Hp} {d g c : Addr} {l t : Int} (h : H d = some (.dK (stk g c l t))) : DGet H d (.str "turn") (some (.int t)) := .inl ⟨_, kS "turn", .inl h, rfl, by simp +decide [stk, valV, kS, List.find?_cons]⟩
theorem four_line : 4 < sizeLine := by rw [sizeLine_eq]; decide
theorem dput_left {H : Hp} {d g c : Addr} {l t : Int} (h : H d = some (.dK (stk g c l t))) (v : Int) : DPut H d (.str "left") (.int v) (upd H d (.dK (stk g c v t))) :=
  .inl ⟨_, kS "left", h, rfl, four_line, by simp +decide [stk, putK, kS]⟩
theorem dput_turn {H : Hp} {d g c : Addr} {l t : Int} (h : H d = some (.dK (stk g c l t))) (v : Int) : DPut H d (.str "turn") (.int v) (upd H d (.dK (stk g c l v))) :=
  .inl ⟨_, kS "turn", h, rfl, four_line, by simp +decide [stk, putK, kS]⟩
structure Stt (H : Hp) (d g c : Addr) (T : Nat) : Prop where
  ne : c ≠ g
  ex : ∃ (gs cs : List Int) (l t : Int), H d = some (.dK (stk g c l t)) ∧ H g = some (.lst (gs.map V.int)) ∧ H c = some (.lst (cs.map V.int)) ∧ 0 ≤ t ∧ t ≤ T
/-- all but the state's own two objects stays -/
def Ch (d g : Addr) (H H' : Hp) : Prop := ∀ b o, b ≠ d → b ≠ g → H b = some o → H' b = some o
theorem Ch.refl {d g : Addr} (H : Hp) : Ch d g H H := fun _ _ _ _ h => h
theorem Ch.trans {d g : Addr} {H H1 H2 : Hp} (a : Ch d g H H1) (b : Ch d g H1 H2) : Ch d g H H2 := fun c o h1 h2 h => b c o h1 h2 (a c o h1 h2 h)
theorem Ch.same {d g : Addr} {H H' : Hp} (e : Same H H') : Ch d g H H' := fun b o _ _ h => e b o h
theorem Ch.new {d g p : Addr} {H : Hp} {o : HO} (h : H p = none) : Ch d g H (upd H p o) := fun b u _ _ e => by rw [upd_ne (ne_of_none e h)]; exact e
theorem Stt.mono {H : Hp} {d g c : Addr} {T T' : Nat} (S : Stt H d g c T) (h : T ≤ T') : Stt H d g c T' := by
  obtain ⟨gs, cs, l, t, h1, h2, h3, h4, h5⟩ := S.ex
  exact ⟨S.ne, gs, cs, l, t, h1, h2, h3, h4, by omega⟩
theorem Stt.d {H : Hp} {d g c : Addr} {T : Nat} (S : Stt H d g c T) : ∃ kv, H d = some (.dK kv) := by obtain ⟨_, _, _, _, h, _⟩ := S.ex; exact ⟨_, h⟩
theorem Stt.g {H : Hp} {d g c : Addr} {T : Nat} (S : Stt H d g c T) : ∃ xs, H g = some (.lst xs) := by obtain ⟨_, _, _, _, _, h, _⟩ := S.ex; exact ⟨_, h⟩
theorem Stt.c {H : Hp} {d g c : Addr} {T : Nat} (S : Stt H d g c T) : ∃ xs, H c = some (.lst xs) := by obtain ⟨_, _, _, _, _, _, h, _⟩ := S.ex; exact ⟨_, h⟩
theorem Ch.tk {K : PySem.W.Frag} {d g c : Addr} {H H' : Hp} {T : Nat} (C : Ch d g H H') (S : Stt H d g c T) : TK K H H' := by
  obtain ⟨kv, hd⟩ := S.d
  obtain ⟨xs, hg⟩ := S.g
  exact TK.of (fun a ys e => C a _ (ne_of e hd (by intro z; cases z)) (ne_of e hg (by intro z; cases z)) e) fun a o u e => C a _ (ne_of e hd (by intro z; cases z)) (ne_of e hg (by intro z; cases z)) e
theorem Ch.free {d g c : Addr} {H H' : Hp} {T : Nat} (C : Ch d g H H') (S' : Stt H' d g c T) {p : Addr} (h : H' p = none) : H p = none := by
  obtain ⟨kv, hd⟩ := S'.d
  obtain ⟨xs, hg⟩ := S'.g
  cases e : H p with
  | none => rfl
  | some o =>
    have := C p o (fun z => by rw [z, hd] at h; cases h) (fun z => by rw [z, hg] at h; cases h) e
    rw [h] at this; cases this
/-- the state stays where all else is new -/
theorem Stt.keep {H H' : Hp} {d g c : Addr} {T : Nat} (S : Stt H d g c T) (e : Same H H') : Stt H' d g c T := by
  obtain ⟨gs, cs, l, t, h1, h2, h3, h4, h5⟩ := S.ex
  exact ⟨S.ne, gs, cs, l, t, e _ _ h1, e _ _ h2, e _ _ h3, h4, h5⟩
theorem Stt.new {H : Hp} {d g c p : Addr} {T : Nat} {o : HO} (S : Stt H d g c T) (h : H p = none) : Stt (upd H p o) d g c T := S.keep (same_new h)

abbrev topT : Nat := 2 ^ 40

/-! ### _law_begun -/
theorem sc_law_begun : FnScope ["script", "great", "cell"] ["script"] (defScope s_law_begun) := ⟨rfl, rfl, rfl, by decide +kernel, rfl, by decide +kernel, by decide +kernel⟩
def spBegun (K : PySem.W.Frag) : Sp := fun vs H Q _ => ∃ (a : Addr) (ns : List Int), vs = [.ref a] ∧ SqL K H a (ns.map V.int) ∧ ns.length ≤ 1000 ∧
  ∀ d g c H', Same H H' → H d = none → H g = none → H c = none → d ≠ g → Stt H' d g c 0 → Q (.ref d) H'
section
variable {P : Program} {w : World} {K : PySem.W.Frag} {mg : Str → Option Value} {base : Heap}
abbrev absI (n : Int) : Int := if n < 0 then -n else n
theorem len_filterMap_le {α β : Type} (f : α → Option β) : ∀ l : List α, (l.filterMap f).length ≤ l.length
  | [] => Nat.le_refl _
  | x :: l => by
    have := len_filterMap_le f l
    rw [List.filterMap_cons]
    split <;> simp only [List.length_cons] <;> omega
theorem take_snoc {α : Type} {l : List α} {i : Nat} {x : α} (h : l[i]? = some x) : l.take (i + 1) = l.take i ++ [x] := by
  rw [List.take_add_one, h]; rfl
theorem ok_begun {f : Addr} {fd : FuncData} (F : Fun K "_law_begun" "_law_begun" s_law_begun f fd) (n_abs : mg "abs" = none) : FnOk P w K mg base CX0 1 f fd ["script"] (spBegun K) := by
  refine F.ok sc_law_begun (fun vs H Q E h => ?_) (fun cdv A outer s H vs Q E hr h => ?_)
  · obtain ⟨a, ns, rfl, _⟩ := h; rfl
  · obtain ⟨a, ns, rfl, hS, hl, k⟩ := h
    have nd := sc_law_begun.nd
    have hz : ∀ n, n ≤ 1000 → n < sizeLine := fun n h => by rw [sizeLine_eq]; omega
    refine ⟨_, (pss_cons (ps_setLc (i := 1) (own := [("cell", 2)]) (g := gName 2) rfl nd rfl rfl (sw_true rfl rfl rfl (by decide +kernel)) (pi_seq (pv 0)) (blkOk_by (own := [("cell", 2)]) (N := ["script", "great", "cell"]) (sc := defScope s_law_begun) (by decide +kernel)) (fun _ _ _ _ _ => (pg_name (i := 2) nd rfl (Or.inl rfl))) (fun _ _ _ _ _ => (pts_one (pt_cmpR op_ge (pe_callB call_abs (by rfl) n_abs (by decide +kernel) (pa_cons (pv 2) pa_nil)) (pe_op op_pow pe_int pe_int) (nomark _)))) (fun _ _ _ _ _ => (pe_op op_sub (pe_callB call_abs (by rfl) n_abs (by decide +kernel) (pa_cons (pv 2) pa_nil)) (pe_op op_pow pe_int pe_int))))
      (pss_one (ps_ret (pe_disp (pps_cons pe_str (pv 1) (pps_cons pe_str (pe_lc (own := [("cell", 2)]) (g := gName 2) rfl nd (pi_seq (pv 0)) (blkOk_by (own := [("cell", 2)]) (N := ["script", "great", "cell"]) (sc := defScope s_law_begun) (by decide +kernel)) (fun _ _ _ _ _ => (pg_name (i := 2) nd rfl (Or.inl rfl))) (fun _ _ _ _ _ => pts_nil) (fun _ _ _ _ _ => (pe_callB call_abs (by rfl) n_abs (by decide +kernel) (pa_cons (pv 2) pa_nil)))) (pps_cons pe_str pe_int (pps_cons pe_str pe_int pps_nil)))) (by rfl) (by rfl) (fun z => by cases z) (by decide))))), ?_⟩
    have intAt : ∀ {i : Nat} {x : V}, (ns.map V.int)[i]? = some x → ∃ n, ns[i]? = some n ∧ x = .int n := fun {i x} hx => by
      rw [List.getElem?_map] at hx
      cases e : ns[i]? with
      | none => rw [e] at hx; cases hx
      | some n => rw [e] at hx; exact ⟨n, rfl, (Option.some.inj hx).symm⟩
    let fg : Int → Option Int := fun n => if 10 ^ 18 ≤ absI n then some (absI n - 10 ^ 18) else none
    refine ⟨_, rfl, a, rfl, .inl ⟨⟨_, hS⟩, fun D nD => lc_list (K := K) (a := a) (xs := ns.map V.int) (fun i H' => Same H H' ∧ H' D = some (.lst (((ns.take i).filterMap fg).map V.int)))
      ⟨same_new nD, upd_same⟩ (fun i H' _ h => h.1.seq hS) (fun i x H' hx ⟨h1, h2⟩ => ?_) (fun H' ⟨h1, h2⟩ => ?_)⟩⟩
    · obtain ⟨n, hn, rfl⟩ := intAt hx
      have hlt : i < ns.length := (List.getElem?_eq_some_iff.mp hn).1
      refine ⟨rfl, _, rfl, n, rfl, _, _, rfl, rfl, ⟨by decide, by decide, by decide⟩, _, _, rfl, rfl, _, rfl, ?_⟩
      have e18 : (10 : Int) ^ (18 : Int).toNat = 10 ^ 18 := rfl
      have hln : ((ns.take i).filterMap fg).length ≤ 1000 := Nat.le_trans (len_filterMap_le _ _) (by rw [List.length_take]; omega)
      refine ite2 (fun hc => ?_) (fun hc => ?_)
      · have hc' : (10 : Int) ^ 18 ≤ absI n := of_decide_eq_true hc
        have ef : fg n = some (absI n - 10 ^ 18) := if_pos hc'
        refine ⟨_, rfl, n, rfl, _, _, rfl, rfl, ⟨by decide, by decide, by decide⟩, _, _, rfl, rfl, _, h2, by rw [List.length_map]; exact hz _ hln, fun b o e => ?_, ?_⟩
        · rw [upd_ne (ne_of_none e nD)]; exact h1 b o e
        · rw [upd_same, take_snoc hn, List.filterMap_append, List.map_append, List.filterMap_cons, ef]; rfl
      · have hc' : ¬ (10 : Int) ^ 18 ≤ absI n := fun z => hc (decide_eq_true z)
        have ef : fg n = none := if_neg hc'
        refine ⟨h1, ?_⟩
        rw [take_snoc hn, List.filterMap_append, List.filterMap_cons, ef, List.filterMap_nil, List.append_nil]; exact h2
    · intro p np
      rw [List.length_map, List.take_length] at h2
      have hpD : D ≠ p := fun z => by rw [← z, h2] at np; cases np
      have s1 : Same H (upd H' p (.dK [])) := h1.trans (same_new np)
      refine ⟨_, rfl, _, rfl, a, rfl, .inl ⟨⟨_, s1.seq hS⟩, fun D2 nD2 => lc_list (K := K) (a := a) (xs := ns.map V.int) (fun i H2 => Same (upd H' p (.dK [])) H2 ∧ H2 D2 = some (.lst (((ns.take i).map absI).map V.int)))
        ⟨same_new nD2, upd_same⟩ (fun i H2 _ h => (s1.trans h.1).seq hS) (fun i x H2 hx ⟨g1, g2⟩ => ?_) (fun H2 ⟨g1, g2⟩ => ?_)⟩⟩
      · obtain ⟨n, hn, rfl⟩ := intAt hx
        have hlt : i < ns.length := (List.getElem?_eq_some_iff.mp hn).1
        refine ⟨rfl, _, rfl, n, rfl, _, g2, by rw [List.length_map, List.length_map, List.length_take]; exact hz _ (by omega), fun b o e => ?_, ?_⟩
        · rw [upd_ne (ne_of_none e nD2)]; exact g1 b o e
        · rw [upd_same, take_snoc hn, List.map_append, List.map_append]; rfl
      · rw [List.length_map, List.take_length] at g2
        have hp2 : H2 p = some (.dK []) := g1 _ _ upd_same
        have hD2p : D2 ≠ p := fun z => by rw [z, upd_same] at nD2; cases nD2
        have hDD2 : D ≠ D2 := fun z => by
          have : upd H' p (.dK []) D = some _ := (upd_ne hpD).trans h2
          rw [z, nD2] at this; cases this
        have h2D : H2 D = some (.lst ((ns.filterMap fg).map V.int)) := g1 _ _ ((upd_ne hpD).trans h2)
        refine ⟨hp2, stk D D2 0 0, rfl, (by show 4 ≤ 15; decide), k p D D2 _ (fun b o e => ?_) ?_ nD ?_ hpD.symm ⟨hDD2.symm, _, _, 0, 0, ?_, (upd_ne hpD).trans h2D, (upd_ne hD2p).trans g2, Int.le_refl _, by decide⟩⟩
        · have hbp : b ≠ p := ne_of_none (h1 _ _ e) np
          rw [upd_ne hbp]; exact g1 _ _ ((upd_ne hbp).trans (h1 _ _ e))
        · exact h1.free np
        · exact s1.free nD2
        · rw [upd_same]; rfl
/-! ### _law_blended -/
theorem sc_law_blended : FnScope ["state", "prime", "turn", "found", "blend", "cell"] ["state"] (defScope s_law_blended) := ⟨rfl, rfl, rfl, by decide +kernel, rfl, by decide +kernel, by decide +kernel⟩
def spBlended : Sp := fun vs H Q _ => ∃ (d g c : Addr) (T : Nat), vs = [.ref d] ∧ Stt H d g c T ∧ T < topT ∧ ∀ r H', Ch d g H H' → Stt H' d g c (T + 1) → (∀ xs, H g = some (.lst xs) → H' g = some (.lst xs)) → Q (.int r) H'
theorem three_line : 3 ≤ sizeLine := by rw [sizeLine_eq]; decide
theorem fdiv67 {p : Int} (h1 : 0 ≤ p) (h2 : p < 2 ^ 31) : 0 ≤ p / 67 ∧ p / 67 < 2 ^ 31 := by omega
theorem ok_blended {f : Addr} {fd : FuncData} (F : Fun K "_law_blended" "_law_blended" s_law_blended f fd) (n_int : mg "int" = none) : FnOk P w K mg base CX0 1 f fd ["state"] spBlended := by
  refine F.ok sc_law_blended (fun vs H Q E h => ?_) (fun cdv A outer s H vs Q E hr h => ?_)
  · obtain ⟨d, g, c, T, rfl, _⟩ := h; rfl
  · obtain ⟨d, g, c, T, rfl, S, hT, k⟩ := h
    have nd := sc_law_blended.nd
    obtain ⟨gs, cs, l, t, hd, hg, hc, ht0, htT⟩ := S.ex
    have eT : (topT : Int) = 1099511627776 := by decide
    have hT' : t < 1099511627776 := by have : ((T : Nat) : Int) < (topT : Nat) := by exact_mod_cast hT
                                       omega
    refine ⟨_, (pss_cons (ps_par (i := 2) (j := 3) rfl nd rfl rfl (by decide) rfl rfl (pa_cons (pe_op uAdd (pe_dget (hu_of hr) (pv 0) pe_str (fun _ _ => rfl)) pe_int) (pa_cons pe_int pa_nil)) rfl)
      (pss_cons (ps_dput (hu_of hr) (pv 0) pe_str (pv 2) rfl)
      (pss_cons (ps_for PassesOwn.never rfl (pi_seq (pe_lstN (pa_cons pe_int (pa_cons pe_int (pa_cons pe_int pa_nil))))) (pg_name (i := 1) nd rfl (Or.inl rfl))
        (pss_cons (ps_set (i := 4) nd rfl (Or.inl rfl) (pe_op uAdd (pe_op uMul pe_int (pv 2)) (pe_op op_fdiv (pv 1) pe_int)))
        (pss_cons (ps_for PassesOwn.never rfl (pi_seq (pe_dget (hu_of hr) (pv 0) pe_str (fun _ _ => rfl))) (pg_name (i := 5) nd rfl (Or.inl rfl))
          (pss_one (ps_set (i := 4) nd rfl (Or.inl rfl) (pe_op op_mod (pe_callTy call_int1 (by rfl) n_int (by decide +kernel) (pa_cons (pe_op uAdd (pe_op uAdd (pe_op uMul (pv 4) pe_int) (pv 5)) (pv 2)) pa_nil)) (pv 1)))))
        (pss_one (ps_set (i := 3) nd rfl (Or.inl rfl) (pe_op uAdd (pe_op uMul (pv 3) pe_int) (pe_op op_mod (pe_callTy call_int1 (by rfl) n_int (by decide +kernel) (pa_cons (pe_op op_pow (pv 4) pe_int) pa_nil)) (pv 1))))))))
      (pss_one (ps_ret (pv 3)))))), ?_⟩
    refine ⟨_, rfl, d, _, rfl, dget_turn hd, add_i ⟨_, _, rfl, ?_⟩⟩
    refine ⟨_, rfl, _, rfl, d, _, rfl, dput_turn hd _, ?_⟩
    have gd : g ≠ d := ne_of hg hd (by intro z; cases z)
    have cd : c ≠ d := ne_of hc hd (by intro z; cases z)
    refine lst_new (by show 3 ≤ 1000; decide) fun p np => ?_
    have dp : d ≠ p := fun z => by rw [z, upd_same] at np; cases np
    have np0 : H p = none := by rw [upd_ne dp.symm] at np; exact np
    generalize hG : upd (upd H d (.dK (stk g c l (t + 1)))) p (.lst [.int 2147482081, .int 2147482063, .int 2147482021]) = G
    have Gp : G p = some (.lst [.int 2147482081, .int 2147482063, .int 2147482021]) := by rw [← hG]; exact upd_same
    have Gd : G d = some (.dK (stk g c l (t + 1))) := by rw [← hG, upd_ne dp]; exact upd_same
    have Go : ∀ b o, b ≠ d → H b = some o → G b = some o := fun b o hb e => by rw [← hG, upd_ne (ne_of_none e np0), upd_ne hb]; exact e
    have Gg := Go g _ gd hg
    have Gc := Go c _ cd hc
    refine ⟨p, rfl, .inl ⟨⟨_, SqL.of Gp⟩, for_list (K := K) (a := p) (xs := [.int 2147482081, .int 2147482063, .int 2147482021])
      (fun i σ H3 => G = H3 ∧ ∃ (v1 v4 v5 : Option V) (fnd : Int), σ = [some (.ref d), v1, some (.int (t + 1)), some (.int fnd), v4, v5])
      ⟨rfl, none, none, none, 0, rfl⟩ (fun i σ H3 _ ⟨h, _⟩ => by rw [← h]; exact SqL.of Gp) ?_ ?_⟩⟩
    · rintro i y σ H3 hy ⟨rfl, v1, v4, v5, fnd, rfl⟩
      obtain ⟨pr, rfl, p0, p1⟩ : ∃ pr : Int, y = .int pr ∧ 0 < pr ∧ pr < 2147483647 := by
        match i, hy with
        | 0, e => exact ⟨_, (Option.some.inj e).symm, by decide, by decide⟩
        | 1, e => exact ⟨_, (Option.some.inj e).symm, by decide, by decide⟩
        | 2, e => exact ⟨_, (Option.some.inj e).symm, by decide, by decide⟩
        | i + 3, e => simp at e
      have hq := fdiv67 (p := pr) (by omega) (by omega)
      refine ⟨_, rfl, mul_i (.inl ⟨by decide, by decide⟩) ⟨_, rfl, _, _, rfl, rfl, ⟨by decide, by decide⟩, add_i ?_⟩⟩
      refine ⟨_, rfl, d, _, rfl, dget_cells Gd, c, rfl, .inl ⟨⟨_, SqL.of Gc⟩, for_list (K := K) (a := c) (xs := cs.map V.int)
        (fun i σ H3 => G = H3 ∧ ∃ (v5 : Option V) (b : Int), σ = [some (.ref d), some (.int pr), some (.int (t + 1)), some (.int fnd), some (.int b), v5] ∧ 0 ≤ b ∧ b < 2 ^ 60)
        ⟨rfl, v5, _, rfl, by omega, by omega⟩ (fun i σ H3 _ ⟨h, _⟩ => by rw [← h]; exact SqL.of Gc) ?_ ?_⟩⟩
      · rintro j y σ H3 hy2 ⟨rfl, v5, b, rfl, b0, b1⟩
        obtain ⟨z, rfl⟩ : ∃ z, y = V.int z := by
          rw [List.getElem?_map] at hy2
          cases e : cs[j]? with
          | none => rw [e] at hy2; cases hy2
          | some z => rw [e] at hy2; exact ⟨z, (Option.some.inj hy2).symm⟩
        refine ⟨_, rfl, mul_i (.inr ⟨by decide, by decide⟩) ⟨_, rfl, add_i ⟨_, rfl, add_i (.inl ⟨_, rfl, _, rfl, _, _, rfl, rfl, p0, ?_⟩)⟩⟩⟩
        have m0 := Int.emod_nonneg (b * 69621 + z + (t + 1)) (by omega : pr ≠ 0)
        have m1 := Int.emod_lt_of_pos (b * 69621 + z + (t + 1)) p0
        exact ⟨rfl, _, _, rfl, m0, by omega⟩
      · rintro σ H3 ⟨rfl, v5, b, rfl, b0, b1⟩
        refine ⟨_, rfl, mul_i (.inr ⟨by decide, by decide⟩) ⟨_, rfl, _, _, rfl, rfl, ⟨by decide, by decide, by omega⟩, .inl ⟨_, rfl, _, rfl, _, _, rfl, rfl, p0, add_i ?_⟩⟩⟩
        exact ⟨rfl, _, _, _, _, rfl⟩
    · rintro σ H3 ⟨rfl, v1, v4, v5, fnd, rfl⟩
      refine ⟨_, rfl, k fnd _ (fun b o hb _ e => Go b o hb e) ⟨S.ne, gs, cs, l, t + 1, Gd, Gg, Gc, by omega, by omega⟩ fun xs e => Go g _ gd e⟩
/-! ### _law_draw -/
theorem sc_law_draw : FnScope ["state", "size_here", "found"] ["state", "size_here"] (defScope s_law_draw) := ⟨rfl, rfl, rfl, by decide +kernel, rfl, by decide +kernel, by decide +kernel⟩
def spDraw : Sp := fun vs H Q _ => ∃ (d g c : Addr) (T : Nat) (n : Int), vs = [.ref d, .int n] ∧ Stt H d g c T ∧ T < topT ∧ 0 < n ∧ n < 1073741824 ∧ ∀ r H', Ch d g H H' → Stt H' d g c (T + 1) → 0 ≤ r → r < n → Q (.int r) H'
theorem ok_draw {f : Addr} {fd : FuncData} (F : Fun K "_law_draw" "_law_draw" s_law_draw f fd) (n_int : mg "int" = none) (D_law_blended : Df P w K mg base "_law_blended" 1 ["state"] spBlended) : FnOk P w K mg base CX0 2 f fd ["state", "size_here"] spDraw := by
  refine F.ok sc_law_draw (fun vs H Q E h => ?_) (fun cdv A outer s H vs Q E hr h => ?_)
  · obtain ⟨d, g, c, T, n, rfl, _⟩ := h; rfl
  · obtain ⟨d, g, c, T, n, rfl, S, hT, n0, n1, k⟩ := h
    have nd := sc_law_draw.nd
    obtain ⟨gs, cs, l, t, hd, hg, hc, ht0, htT⟩ := S.ex
    have gd : g ≠ d := ne_of hg hd (by intro z; cases z)
    have cd : c ≠ d := ne_of hc hd (by intro z; cases z)
    refine ⟨_, (pss_cons (ps_if (pt_cmpR (uEq hr.units) (pe_dget (hu_of hr) (pv 0) pe_str (fun _ _ => rfl)) pe_int (nomark _))
        (pss_one (ps_dput (hu_of hr) (pv 0) pe_str (pe_ifExp (pt_cmpR (uNe hr.units) (pe_dget (hu_of hr) (pv 0) pe_str (fun _ _ => rfl)) (pe_lstN pa_nil) (nomark _)) (pe_bm PySem.F.plainAttrs_list PySem.F.slot_list_pop PySem.F.type_list_pop mt_popAt (pe_dget (hu_of hr) (pv 0) pe_str (fun _ _ => rfl)) (pa_cons pe_int pa_nil)) (pe_df D_law_blended hr (by omega) (pa_cons (pv 0) pa_nil))) rfl))
        pss_nil)
      (pss_cons (ps_set (i := 2) nd rfl (Or.inl rfl) (pe_op op_mod (pe_callTy call_int1 (by rfl) n_int (by decide +kernel) (pa_cons (pe_dget (hu_of hr) (pv 0) pe_str (fun _ _ => rfl)) pa_nil)) (pv 1)))
      (pss_cons (ps_dput (hu_of hr) (pv 0) pe_str (pe_op op_fdiv (pe_dget (hu_of hr) (pv 0) pe_str (fun _ _ => rfl)) (pv 1)) rfl)
      (pss_one (ps_ret (pv 2)))))), ?_⟩
    -- the last three rows, from any state
    have fin : ∀ H1, Ch d g H H1 → Stt H1 d g c (T + 1) → tSeq (tAsg (tOp (rI (fun _ j => 0 < j) fun i j => .int (i % j)) (tCB (fun xs H Q => (∃ i, xs = [.int i] ∧ Q (.int i) H) ∨ ∃ k, xs = [.bl k] ∧ Q (.int (if k then 1 else 0)) H) (tCons (tDGet (tVar 0) (tC (.str "left"))) tNil)) (tVar 1)) (gName 2))
        (tSeq (sDPut (tVar 0) (tC (.str "left")) (tOp (rI CDiv fun i j => .int (i / j)) (tDGet (tVar 0) (tC (.str "left"))) (tVar 1))) (tRet (tVar 2))) { nx := fun _ H' => Q .non H', rt := Q } (L2.start ["state", "size_here", "found"] [V.ref d, V.int n]) H1 := fun H1 C1 S1 => by
      obtain ⟨gs, cs, l, t, hd, hg, hc, ht0, htT⟩ := S1.ex
      have gd : g ≠ d := ne_of hg hd (by intro z; cases z)
      have cd : c ≠ d := ne_of hc hd (by intro z; cases z)
      refine ⟨_, rfl, d, _, rfl, dget_left hd, .inl ⟨_, rfl, _, rfl, _, _, rfl, rfl, n0, ?_⟩⟩
      refine ⟨_, rfl, d, _, rfl, dget_left hd, _, rfl, _, _, rfl, rfl, ⟨n0, n1⟩, _, rfl, d, _, rfl, dput_left hd _, _, rfl, ?_⟩
      refine k _ _ (C1.trans fun b o hb _ e => ?_) ⟨S1.ne, gs, cs, _, t, upd_same, ?_, ?_, ht0, htT⟩ (Int.emod_nonneg _ (by omega)) (Int.emod_lt_of_pos _ n0)
      · rw [upd_ne hb]; exact e
      · rw [upd_ne gd]; exact hg
      · rw [upd_ne cd]; exact hc
    refine ⟨_, rfl, d, _, rfl, dget_left hd, eq_f rfl rfl ⟨_, rfl, ?_⟩⟩
    refine ite2 (fun _ => ?_) (fun _ => fin H (Ch.refl H) (S.mono (Nat.le_succ _)))
    refine ⟨_, rfl, d, _, rfl, dget_great hd, lst_new (Nat.zero_le _) fun p np => ?_⟩
    have S1 := S.new (o := .lst []) np
    have C1 : Ch d g H (upd H p (.lst [])) := Ch.new np
    have hg1 : upd H p (.lst []) g = some (.lst (gs.map V.int)) := by rw [upd_ne (ne_of_none hg np)]; exact hg
    have hd1 : upd H p (.lst []) d = some (.dK (stk g c l t)) := by rw [upd_ne (ne_of_none hd np)]; exact hd
    have hc1 : upd H p (.lst []) c = some (.lst (cs.map V.int)) := by rw [upd_ne (ne_of_none hc np)]; exact hc
    refine eq_n (SqL.of hg1) (SqL.of upd_same) rfl ⟨_, rfl, ?_⟩
    have put : ∀ (v : Int) (H1 : Hp), Ch d g H H1 → Stt H1 d g c (T + 1) → ∃ (x : V), (L2.start ["state", "size_here", "found"] [V.ref d, V.int n])[0]? = some (some x) ∧ ∃ a H4, x = .ref a ∧ DPut H1 a (.str "left") (.int v) H4 ∧ Ch d g H H4 ∧ Stt H4 d g c (T + 1) := fun v H1 C2 S2 => by
      obtain ⟨gs, cs, l, t, hd, hg, hc, ht0, htT⟩ := S2.ex
      refine ⟨_, rfl, d, _, rfl, dput_left hd v, C2.trans fun b o hb _ e => ?_, ⟨S2.ne, gs, cs, _, t, upd_same, ?_, ?_, ht0, htT⟩⟩
      · rw [upd_ne hb]; exact e
      · rw [upd_ne (ne_of hg hd (by intro z; cases z))]; exact hg
      · rw [upd_ne (ne_of hc hd (by intro z; cases z))]; exact hc
    cases gs with
    | nil =>
      refine iteF ?_
      refine ⟨_, rfl, d, g, c, T, rfl, S1, hT, fun r H2 C2 S2 _ => ?_⟩
      obtain ⟨x, e, a, H4, e2, hp, C4, S4⟩ := put r H2 (C1.trans C2) S2
      exact ⟨x, e, a, H4, e2, hp, fin H4 C4 S4⟩
    | cons z gs =>
      refine iteT ?_
      refine ⟨_, rfl, d, _, rfl, dget_great hd1, .inl ⟨rfl, _, .inl (.inl hg1)⟩, g, _, 0, 0, .int z, rfl, rfl, hg1, by decide, by decide, ?_, rfl, ?_⟩
      · simp [seqIndex?]
      have C2 : Ch d g H (upd (upd H p (.lst [])) g (.lst ((V.int z :: gs.map V.int).eraseIdx 0))) := C1.trans fun b o _ hb e => by rw [upd_ne hb]; exact e
      have S2 : Stt (upd (upd H p (.lst [])) g (.lst ((V.int z :: gs.map V.int).eraseIdx 0))) d g c (T + 1) := ⟨S.ne, gs, cs, l, t, by rw [upd_ne gd.symm]; exact hd1, upd_same, by rw [upd_ne S.ne]; exact hc1, ht0, by omega⟩
      obtain ⟨x, e, a, H4, e2, hp, C4, S4⟩ := put z _ C2 S2
      exact ⟨x, e, a, H4, e2, hp, fin H4 C4 S4⟩
end
end RS

/-! Str4: words, numbers, leaves of texts, in plain Lean. -/
namespace RS
open PySem PySem.Spec PyProof.Rows L2 TL

/-- the constants of the module -/
def cs_SMALL : Str := "abcdefghijklmnopqrstuvwxyz"
def cs_CAPITAL : Str := "ABCDEFGHIJKLMNOPQRSTUVWXYZ"
def cs_DIGITS : Str := "0123456789"
def ci_MOST_LETTERS : Int := 16
def ci_MOST_COUNT : Int := 1000000
def ci_MOST_NUMBER : Int := 999999999999999999
def ci_LEVELS : Int := 4
def keptL : List Str := ["module", "uses", "kind", "where", "def", "show", "fun", "let", "in", "Set0", "Set1", "Set2", "Set3"]
def markL : List Str := ["plain", "hidden", "ghost", "shadow"]
def alphaS : Str := "abcdefghijklmnopqrstuvwxyzABCDEFGHIJKLMNOPQRSTUVWXYZ"
def allS : Str := "abcdefghijklmnopqrstuvwxyzABCDEFGHIJKLMNOPQRSTUVWXYZ0123456789_"
theorem alphaS_eq : cs_SMALL ++ cs_CAPITAL = alphaS := by decide +kernel
theorem allS_eq : cs_SMALL ++ cs_CAPITAL ++ cs_DIGITS ++ "_" = allS := by decide +kernel
theorem allS_eq2 : alphaS ++ "0123456789_" = allS := by decide +kernel
abbrev cl (z : Str) : List Nat := z.cps.toList
theorem str_ext {a b : Str} (h : cl a = cl b) : a = b := by
  obtain ⟨⟨l⟩⟩ := a; obtain ⟨⟨m⟩⟩ := b
  cases h; rfl
theorem cl_len (z : Str) : (cl z).length = z.length := by simp [Str.length]
/-- z is a word -/
def isWord (z : Str) : Bool := match cl z with
  | [] => false
  | c :: cs => decide ((c :: cs).length ≤ 16) && !(inV (.str z) (keptL.map V.str)) && decide (c ∈ cl alphaS) && (c :: cs).all fun d => decide (d ∈ cl allS)
def digB (z : Str) : Bool := match cl z with
  | [] => false
  | c :: cs => decide ((c :: cs).length ≤ 18) && ((c :: cs).all fun d => decide (d ∈ cl cs_DIGITS)) && (!(c == 48) || decide (z = "0"))
theorem dig_iff (d : Nat) : d ∈ cl cs_DIGITS ↔ 48 ≤ d ∧ d ≤ 57 := by
  show d ∈ [48, 49, 50, 51, 52, 53, 54, 55, 56, 57] ↔ _
  simp only [List.mem_cons, List.not_mem_nil, or_false]
  omega
/-- the number that a word of digits tells -/
def readNum (z : Str) : Option Nat := if digB z = true then some (NumText.digitsVal (cl z)) else none
def numS (n : Nat) : Str := Str.ofString (toString ((n : Nat) : Int))
theorem cl_numS (n : Nat) : cl (numS n) = (Nat.toDigits 10 n).map Char.toNat := PySem.W.KIN.signs_num n
theorem digB_digits {z : Str} (h : digB z = true) : NumText.AllDigits (cl z) ∧ cl z ≠ [] ∧ z.length ≤ 18 := by
  unfold digB at h
  rw [← cl_len]
  cases e : cl z with
  | nil => rw [e] at h; cases h
  | cons c cs =>
    rw [e] at h
    simp only [Bool.and_eq_true, decide_eq_true_eq, List.all_eq_true] at h
    exact ⟨fun d hd => (dig_iff d).mp (h.1.2 d hd), by simp, h.1.1⟩
theorem int_of_digB {z : Str} (h : digB z = true) : PySem.intText? z = some ((NumText.digitsVal (cl z) : Nat) : Int) := by
  obtain ⟨h1, h2, h3⟩ := digB_digits h
  exact PySem.intText_digits h1 h2 (by omega)
theorem toNat_ofNat {c : Nat} (h : 48 ≤ c ∧ c ≤ 57) : (Char.ofNat c).toNat = c := by
  have : ∀ d : Nat, d < 10 → (Char.ofNat (48 + d)).toNat = 48 + d := by decide
  have h2 := this (c - 48) (by omega)
  rw [show 48 + (c - 48) = c by omega] at h2
  exact h2
/-- a number's word is its text -/
theorem numS_read {z : Str} (h : digB z = true) : numS (NumText.digitsVal (cl z)) = z := by
  obtain ⟨h1, h2, h3⟩ := digB_digits h
  refine str_ext ?_
  rw [cl_numS]
  have hc : (cl z).length = ((cl z).length - 1) + 1 := by
    have : 0 < (cl z).length := List.length_pos_iff.mpr h2
    omega
  rw [NumText.toDigits_digitsVal ((cl z).length - 1) (cl z) hc h1 ?_, List.map_map]
  · refine (List.map_congr_left fun c hc => ?_).trans (List.map_id _)
    exact toNat_ofNat (h1 c hc)
  · unfold digB at h
    cases e : cl z with
    | nil => exact absurd e h2
    | cons c cs =>
      rw [e] at h
      simp only [Bool.and_eq_true, Bool.or_eq_true, Bool.not_eq_true', beq_eq_false_iff_ne, decide_eq_true_eq] at h
      rcases h.2 with h5 | h5
      · refine .inr ⟨c, cs, rfl, ?_⟩
        have := (h1 c (by rw [e]; exact List.mem_cons_self)).1
        omega
      · subst h5
        left
        have : cl "0" = [48] := by decide +kernel
        rw [this] at e
        cases e; rfl
theorem digitsVal_lt : ∀ (cs : List Nat), NumText.AllDigits cs → NumText.digitsVal cs < 10 ^ cs.length := by
  intro cs
  have key : ∀ (cs : List Nat) (a m : Nat), NumText.AllDigits cs → a < 10 ^ m → cs.foldl (fun acc c => acc * 10 + (c - 48)) a < 10 ^ (m + cs.length) := by
    intro cs
    induction cs with
    | nil => intro a m _ h; simpa using h
    | cons c cs ih =>
      intro a m h ha
      have hc := h.head
      rw [List.foldl_cons, List.length_cons, show m + (cs.length + 1) = (m + 1) + cs.length by omega]
      refine ih _ _ h.tail ?_
      rw [Nat.pow_succ]; omega
  intro h
  have := key cs 0 0 h (by decide)
  simpa [NumText.digitsVal] using this
theorem readNum_lt {z : Str} {n : Nat} (h : readNum z = some n) : n < 10 ^ 18 ∧ numS n = z := by
  unfold readNum at h
  split at h
  · rename_i hd
    cases h
    obtain ⟨h1, h2, h3⟩ := digB_digits hd
    refine ⟨Nat.lt_of_lt_of_le (digitsVal_lt _ h1) (Nat.pow_le_pow_right (by decide) (by rw [cl_len]; omega)), numS_read hd⟩
  · cases h
/-- .. and the other way about -/
theorem numL_head (n : Nat) (h : 0 < n) : ∃ c r, numL n = c :: r ∧ 49 ≤ c := by
  induction n using Nat.strongRecOn with
  | _ n ih =>
    by_cases h10 : n < 10
    · exact ⟨48 + n, [], numL_lt h10, by omega⟩
    · obtain ⟨c, r, e, hc⟩ := ih (n / 10) (by omega) (by omega)
      exact ⟨c, r ++ [48 + n % 10], by rw [numL_step (by omega), e]; rfl, hc⟩
theorem digB_numS {n : Nat} (h : n < 10 ^ 18) : digB (numS n) = true := by
  have e : cl (numS n) = numL n := tl_num n
  have hl := numL_len (by decide) h
  have ha := numL_digits n
  unfold digB
  rw [e]
  rcases Nat.eq_zero_or_pos n with z | z
  · subst z; decide +kernel
  · obtain ⟨c, r, e2, hc⟩ := numL_head n z
    rw [e2] at hl ha ⊢
    simp only [Bool.and_eq_true, decide_eq_true_eq, List.all_eq_true, Bool.or_eq_true, Bool.not_eq_true', beq_eq_false_iff_ne]
    exact ⟨⟨hl, fun d hd => (dig_iff d).mpr (ha d hd)⟩, .inl (by omega)⟩
theorem readNum_numS {n : Nat} (h : n < 10 ^ 18) : readNum (numS n) = some n := by
  unfold readNum
  rw [if_pos (digB_numS h), show cl (numS n) = numL n from tl_num n, numL_val]
/-! ### parts of a text -/
theorem cutS_to (z : Str) (k : Nat) : cl (cutS z none (some (k : Int))) = (cl z).take k := by
  unfold cutS
  rw [HT.sIx_none, HT.sIx_nat, List.drop_zero, Nat.sub_zero]
  show ((cl z).take (min k z.length)) = _
  rw [← cl_len, List.take_eq_take_iff]
  omega
theorem cutS_from (z : Str) (k : Nat) : cl (cutS z (some (k : Int)) none) = (cl z).drop k := by
  unfold cutS
  rw [HT.sIx_none, HT.sIx_nat]
  show ((cl z).drop (min k z.length)).take (z.length - min k z.length) = _
  rw [← cl_len]
  by_cases h : k ≤ (cl z).length
  · rw [Nat.min_eq_left h, List.take_of_length_le (by rw [List.length_drop]; omega)]
  · rw [Nat.min_eq_right (by omega), List.drop_of_length_le (by omega), List.drop_of_length_le (by omega)]; simp
/-- the first colon -/
theorem splitMax_no {z : Str} (h : 58 ∉ cl z) : Txt.splitMax z ":" 1 = [z] := by
  have e : (Builtin.Str.occurrences z ":" 0 z.length 1).isEmpty = true := by
    have := PySem.StrLaws.found_one z 58
    rw [decide_eq_false h] at this
    have e2 : (":" : Str) = ⟨#[58]⟩ := by decide +kernel
    rw [e2]
    simpa using this
  unfold Txt.splitMax
  split
  · rfl
  · have el : PySem.limitOf z 1 = 1 := rfl
    rw [el, if_pos e]
theorem splitMax_at {a b : Str} (h : 58 ∉ cl a) : Txt.splitMax (a ++ ":" ++ b) ":" 1 = [a, b] := by
  have ey : tl (":" : Str) = [58] := by decide +kernel
  have hp := partition_app (y := ":") ey (a := a) (b := b) h
  have hin : 58 ∈ cl (a ++ ":" ++ b) := by rw [show cl (a ++ ":" ++ b) = tl (a ++ ":" ++ b) from rfl, tl_append, tl_append, ey]; simp
  have e : (Builtin.Str.occurrences (a ++ ":" ++ b) ":" 0 (a ++ ":" ++ b).length 1).isEmpty = false := by
    have := PySem.StrLaws.found_one (a ++ ":" ++ b) 58
    rw [decide_eq_true hin] at this
    have e2 : (":" : Str) = ⟨#[58]⟩ := by decide +kernel
    rw [e2] at this ⊢
    simpa using this
  have hlen : ∃ i, Builtin.Str.occurrences (a ++ ":" ++ b) ":" 0 (a ++ ":" ++ b).length 1 = [i] := by
    have := PySem.StrLaws.occ_length_le (a ++ ":" ++ b) ":" 0 (a ++ ":" ++ b).length 1
    match hq : Builtin.Str.occurrences (a ++ ":" ++ b) ":" 0 (a ++ ":" ++ b).length 1 with
    | [] => rw [hq] at e; cases e
    | [i] => exact ⟨i, rfl⟩
    | _ :: _ :: _ => rw [hq] at this; simp at this
  obtain ⟨i, hi⟩ := hlen
  unfold Txt.partition at hp
  rw [hi] at hp
  simp only [Prod.mk.injEq] at hp
  unfold Txt.splitMax
  have el : PySem.limitOf (a ++ ":" ++ b) 1 = 1 := rfl
  have hk : (decide ((a ++ ":" ++ b).length < (":" : Str).length) || decide (Builtin.Str.strKind (a ++ ":" ++ b) < Builtin.Str.strKind ":")) = false := by
    have h1 : ¬ (a ++ ":" ++ b).length < (":" : Str).length := by
      have : (a ++ ":" ++ b).length = (cl (a ++ ":" ++ b)).length := (cl_len _).symm
      rw [this, show cl (a ++ ":" ++ b) = tl (a ++ ":" ++ b) from rfl, tl_append, tl_append, ey, List.length_append, List.length_append]
      show ¬ (_ + 1 + _ < 1)
      omega
    have h2 : ¬ Builtin.Str.strKind (a ++ ":" ++ b) < Builtin.Str.strKind ":" := by
      have e1 : Builtin.Str.strKind ":" = 1 := by decide +kernel
      rw [e1]
      unfold Builtin.Str.strKind
      split
      · omega
      · split <;> omega
    rw [decide_eq_false h1, decide_eq_false h2]; rfl
  rw [hk, el, hi]
  simp only [Bool.false_eq_true, if_false, List.isEmpty_cons]
  show [Builtin.Str.strSub _ 0 i, Builtin.Str.strSub _ (i + _) _] = _
  rw [hp.1, hp.2.2]
theorem colon_split {z : Str} (h : 58 ∈ cl z) : ∃ a b, z = a ++ ":" ++ b ∧ 58 ∉ cl a := by
  obtain ⟨l, r, e, hl⟩ := List.eq_append_cons_of_mem h
  refine ⟨⟨l.toArray⟩, ⟨r.toArray⟩, str_ext ?_, hl⟩
  rw [show cl ((⟨l.toArray⟩ : Str) ++ ":" ++ ⟨r.toArray⟩) = tl ((⟨l.toArray⟩ : Str) ++ ":" ++ ⟨r.toArray⟩) from rfl, tl_append, tl_append, show tl (":" : Str) = [58] by decide +kernel]
  rw [e]
  show l ++ 58 :: r = l ++ [58] ++ r
  simp
end RS

/-! Terms: drawn core terms as trees; _law_pick, _law_rt_term. -/
namespace RS
open PySem PySem.Spec PyProof.Rows L2

inductive Tm where
  | num (w : Str) (n : Int)
  | name (x : Str)
  | count (x : Str) (n : Int)
  | bin (w m : Str) (a b : Tm)
  | letT (a b c : Tm)
  | app (f : Tm) (m : Str) (x : Tm)
def Tm.pd : Tm → PyData
  | .num w n => .tuple [.str w, .int n]
  | .name x => .tuple [.str "name", .str x]
  | .count x n => .tuple [.str "count", .str x, .int n]
  | .bin w m a b => .tuple [.str w, .str m, a.pd, b.pd]
  | .letT a b c => .tuple [.str "let", a.pd, b.pd, c.pd]
  | .app f m x => .tuple [.str "app", f.pd, .str m, x.pd]
def marksL : List Str := ["plain", "hidden", "ghost", "shadow"]
def namesL : List Str := ["f", "Num", "x_1", "aBcDeFgHiJkLmNoP"]
def Tm.wf : Tm → Prop
  | .num w n => (w = "sort" ∧ 0 ≤ n ∧ n < 4) ∨ ((w = "local" ∨ w = "bound" ∨ w = "hole") ∧ 0 ≤ n ∧ n ≤ 1000000)
  | .name x => isWord x = true
  | .count x n => isWord x = true ∧ 0 ≤ n ∧ n < 10 ^ 18
  | .bin w m a b => (w = "pi" ∨ w = "fun") ∧ m ∈ marksL ∧ a.wf ∧ b.wf
  | .letT a b c => a.wf ∧ b.wf ∧ c.wf
  | .app f m x => f.wf ∧ m ∈ marksL ∧ x.wf
theorem isWord_names {x : Str} (h : x ∈ namesL) : isWord x = true := by
  have : (namesL.all fun x => isWord x) = true := by decide +kernel
  exact List.all_eq_true.mp this x h
theorem isWord_Num : isWord "Num" = true := by decide +kernel
def Tm.depth : Tm → Nat
  | .num _ _ => 1
  | .name _ => 1
  | .count _ _ => 1
  | .bin _ _ a b => 1 + max a.depth b.depth
  | .letT a b c => 1 + max a.depth (max b.depth c.depth)
  | .app f _ x => 1 + max f.depth x.depth
def Tm.nodes : Tm → Nat
  | .num _ _ => 1
  | .name _ => 1
  | .count _ _ => 1
  | .bin _ _ a b => 1 + (a.nodes + b.nodes)
  | .letT a b c => 1 + (a.nodes + (b.nodes + c.nodes))
  | .app f _ x => 1 + (f.nodes + x.nodes)

/-! ### displays -/
theorem Ch.ofSame {d g : Addr} {H H1 H2 : Hp} (c : Ch d g H H1) (e : Same H1 H2) : Ch d g H H2 := c.trans (Ch.same e)

/-! ### _law_pick -/
theorem sc_law_pick : FnScope ["state", "several"] ["state", "several"] (defScope s_law_pick) := ⟨rfl, rfl, rfl, by decide +kernel, rfl, by decide +kernel, by decide +kernel⟩
def spPick : Sp := fun vs H Q _ => ∃ (d g c : Addr) (T : Nat) (l : Addr) (xs : List V), vs = [.ref d, .ref l] ∧ Stt H d g c T ∧ H l = some (.lst xs) ∧ l ≠ g ∧ 0 < xs.length ∧ xs.length ≤ 1000 ∧ T < topT ∧ ∀ (i : Nat) (x : V) (H' : Hp), xs[i]? = some x → Ch d g H H' → Stt H' d g c (T + 1) → Q x H'
section
variable {P : Program} {w : World} {K : PySem.W.Frag} {mg : Str → Option Value} {base : Heap}
theorem ok_pick {f : Addr} {fd : FuncData} (F : Fun K "_law_pick" "_law_pick" s_law_pick f fd) (n_len : mg "len" = none) (D_law_draw : Df P w K mg base "_law_draw" 2 ["state", "size_here"] spDraw) : FnOk P w K mg base CX0 3 f fd ["state", "several"] spPick := by
  refine F.ok sc_law_pick (fun vs H Q E h => ?_) (fun cdv A outer s H vs Q E hr h => ?_)
  · obtain ⟨d, g, c, T, l, xs, rfl, _⟩ := h; rfl
  · obtain ⟨d, g, c, T, l, xs, rfl, S, hl, lg, l0, l1, hT, k⟩ := h
    obtain ⟨kv, hd⟩ := S.d
    have ld : l ≠ d := ne_of hl hd (by intro z; cases z)
    refine ⟨_, (pss_one (ps_ret (pe_ix ix_seq (pv 1) (pe_df D_law_draw hr (by omega) (pa_cons (pv 0) (pa_cons (pe_callB uLen (by rfl) n_len (by decide +kernel) (pa_cons (pv 1) pa_nil)) pa_nil))) (fun _ _ => rfl)))), ?_⟩
    refine ⟨_, rfl, _, rfl, _, rfl, _, xs.length, rfl, .inl ⟨xs, SqL.of hl, rfl⟩, d, g, c, T, (xs.length : Int), rfl, S, hT, by omega, by omega, fun r H' C S' r0 r1 => ?_⟩
    obtain ⟨j, rfl⟩ : ∃ j : Nat, r = j := ⟨r.toNat, by omega⟩
    have hj : j < xs.length := by omega
    exact .inl ⟨l, xs, j, xs[j], rfl, rfl, SqL.of (C l _ ld lg hl), atI_nat (by simp [hj]), k j _ H' (by simp [hj]) C S'⟩
/-- one of some written texts -/
theorem pick_str {xs : List Str} {i : Nat} {x : V} (h : (xs.map V.str)[i]? = some x) : ∃ m ∈ xs, x = .str m := by
  rw [List.getElem?_map] at h
  cases e : xs[i]? with
  | none => rw [e] at h; cases h
  | some m => rw [e] at h; exact ⟨m, List.mem_of_getElem? e, (Option.some.inj h).symm⟩

/-! ### _law_rt_term -/
theorem sc_law_rt_term : FnScope ["state", "deep", "ahead", "some", "way", "mark", "word"] ["state", "deep", "ahead"] (defScope s_law_rt_term) := ⟨rfl, rfl, rfl, by decide +kernel, rfl, by decide +kernel, by decide +kernel⟩
def cost : Nat → Nat
  | 0 => 0
  | n + 1 => 10 + 3 * cost n
def spTerm (K : PySem.W.Frag) (N : Nat) : Sp := fun vs H Q _ => ∃ (d g c : Addr) (T : Nat) (deep ahead : Int), vs = [.ref d, .int deep, .int ahead] ∧ Stt H d g c T ∧ T + cost N ≤ topT ∧ 1 ≤ deep ∧ deep ≤ N ∧ 0 ≤ ahead ∧ ahead + N ≤ 1000 ∧
  ∀ (t : Tm) v H', Ch d g H H' → Stt H' d g c (T + cost N) → Dt K H' v t.pd → t.wf → (t.depth : Int) ≤ deep → Q v H'
theorem term_none {f : Addr} {fd : FuncData} : FnOk P w K mg base CX0 3 f fd ["state", "deep", "ahead"] (spTerm K 0) := by
  refine ⟨fun vs H Q E h => ?_, fun A outer s H args us vs Q E _ _ _ _ h => ?_⟩
  · obtain ⟨d, g, c, T, deep, ahead, _, _, _, h1, h2, _⟩ := h
    exact absurd (show deep ≤ 0 from h2) (by omega)
  · obtain ⟨d, g, c, T, deep, ahead, _, _, _, h1, h2, _⟩ := h
    exact absurd (show deep ≤ 0 from h2) (by omega)
theorem ok_term {f : Addr} {fd : FuncData} (F : Fun K "_law_rt_term" "_law_rt_term" s_law_rt_term f fd) (hm : mg "_law_rt_term" = some (.ref f)) (b : Binds K fd ["state", "deep", "ahead"] [])
    (D_law_draw : Df P w K mg base "_law_draw" 2 ["state", "size_here"] spDraw) (D_law_pick : Df P w K mg base "_law_pick" 3 ["state", "several"] spPick) :
    ∀ N, FnOk P w K mg base CX0 (N + 3) f fd ["state", "deep", "ahead"] (spTerm K N)
  | 0 => term_none
  | N + 1 => by
    have D_law_rt_term : Df P w K mg base "_law_rt_term" (N + 3) ["state", "deep", "ahead"] (spTerm K N) := ⟨f, fd, ok_term F hm b D_law_draw D_law_pick N, hm, F.kp, b⟩
    refine F.ok sc_law_rt_term (fun vs H Q E h => ?_) (fun cdv A outer s H vs Q E hr h => ?_)
    · obtain ⟨d, g, c, T, deep, ahead, rfl, _⟩ := h; rfl
    · obtain ⟨d, g, c, T, deep, ahead, rfl, S, hT, d1, dN, a0, aN, k⟩ := h
      have nd := sc_law_rt_term.nd
      have ec : cost (N + 1) = 10 + 3 * cost N := rfl
      rw [ec] at hT k
      refine ⟨_, (pss_cons (ps_par (i := 4) (j := 5) rfl nd rfl rfl (by decide) rfl rfl (pa_cons (pe_df D_law_draw hr (by omega) (pa_cons (pv 0) (pa_cons pe_int pa_nil))) (pa_cons (pe_df D_law_pick hr (by omega) (pa_cons (pv 0) (pa_cons (pe_lstN (pa_cons pe_str (pa_cons pe_str (pa_cons pe_str (pa_cons pe_str pa_nil))))) pa_nil))) pa_nil)) rfl)
      (pss_cons (ps_if (pt_w (PW.pt (pw_and (pt_cmpR op_gt (pv 1) pe_int (nomark _)) (pw_and1 (pt_cmpR op_gt (pv 4) pe_int (nomark _))))))
        (pss_cons (ps_if (pt_cmpR op_lt (pv 4) pe_int (nomark _))
          (pss_cons (ps_set (i := 6) nd rfl (Or.inl rfl) (pe_ifExp (pt_cmpR (uEq hr.units) (pv 4) pe_int (nomark _)) pe_str pe_str))
          (pss_one (ps_ret (pe_tupN (pa_cons (pv 6) (pa_cons (pv 5) (pa_cons (pe_df D_law_rt_term hr (by omega) (pa_cons (pv 0) (pa_cons (pe_op op_sub (pv 1) pe_int) (pa_cons (pv 2) pa_nil)))) (pa_cons (pe_df D_law_rt_term hr (by omega) (pa_cons (pv 0) (pa_cons (pe_op op_sub (pv 1) pe_int) (pa_cons (pe_op uAdd (pv 2) pe_int) pa_nil)))) pa_nil))))))))
          pss_nil)
        (pss_cons (ps_if (pt_cmpR (uEq hr.units) (pv 4) pe_int (nomark _))
          (pss_one (ps_ret (pe_tupN (pa_cons pe_str (pa_cons (pe_df D_law_rt_term hr (by omega) (pa_cons (pv 0) (pa_cons (pe_op op_sub (pv 1) pe_int) (pa_cons (pv 2) pa_nil)))) (pa_cons (pe_df D_law_rt_term hr (by omega) (pa_cons (pv 0) (pa_cons (pe_op op_sub (pv 1) pe_int) (pa_cons (pv 2) pa_nil)))) (pa_cons (pe_df D_law_rt_term hr (by omega) (pa_cons (pv 0) (pa_cons (pe_op op_sub (pv 1) pe_int) (pa_cons (pe_op uAdd (pv 2) pe_int) pa_nil)))) pa_nil)))))))
          pss_nil)
        (pss_one (ps_ret (pe_tupN (pa_cons pe_str (pa_cons (pe_df D_law_rt_term hr (by omega) (pa_cons (pv 0) (pa_cons (pe_op op_sub (pv 1) pe_int) (pa_cons (pv 2) pa_nil)))) (pa_cons (pv 5) (pa_cons (pe_df D_law_rt_term hr (by omega) (pa_cons (pv 0) (pa_cons (pe_op op_sub (pv 1) pe_int) (pa_cons (pv 2) pa_nil)))) pa_nil)))))))))
        pss_nil)
      (pss_cons (ps_set (i := 3) nd rfl (Or.inl rfl) (pe_lstN (pa_cons (pe_tupN (pa_cons pe_str (pa_cons (pe_df D_law_draw hr (by omega) (pa_cons (pv 0) (pa_cons pe_int pa_nil))) pa_nil))) (pa_cons (pe_tupN (pa_cons pe_str (pa_cons (pe_df D_law_draw hr (by omega) (pa_cons (pv 0) (pa_cons pe_int pa_nil))) pa_nil))) (pa_cons (pe_tupN (pa_cons pe_str (pa_cons (pe_df D_law_pick hr (by omega) (pa_cons (pv 0) (pa_cons (pe_lstN (pa_cons pe_str (pa_cons pe_str (pa_cons pe_str (pa_cons pe_str pa_nil))))) pa_nil))) pa_nil))) pa_nil)))))
      (pss_cons (ps_set (i := 3) nd rfl (Or.inl rfl) (pe_op uAdd (pv 3) (pe_lstN (pa_cons (pe_tupN (pa_cons pe_str (pa_cons pe_str (pa_cons (pe_df D_law_pick hr (by omega) (pa_cons (pv 0) (pa_cons (pe_lstN (pa_cons pe_int (pa_cons pe_int (pa_cons (pe_op uAdd (pe_op op_pow pe_int pe_int) pe_int) (pa_cons (pe_op op_sub (pe_op op_pow pe_int pe_int) pe_int) pa_nil))))) pa_nil))) pa_nil)))) (pa_cons (pe_tupN (pa_cons pe_str (pa_cons (pe_df D_law_draw hr (by omega) (pa_cons (pv 0) (pa_cons (pe_op uAdd (pv 2) pe_int) pa_nil))) pa_nil))) pa_nil)))))
      (pss_one (ps_ret (pe_ifExp (pt_cmpR op_lt (pv 4) pe_int (nomark _)) (pe_ix ix_seq (pv 3) (pv 4) (fun _ _ => rfl)) (pe_ifExp (pt_cmpR op_gt (pv 2) pe_int (nomark _)) (pe_tupN (pa_cons pe_str (pa_cons (pe_df D_law_draw hr (by omega) (pa_cons (pv 0) (pa_cons (pv 2) pa_nil))) pa_nil))) (pe_tupN (pa_cons pe_str (pa_cons (pe_df D_law_draw hr (by omega) (pa_cons (pv 0) (pa_cons pe_int pa_nil))) pa_nil))))))))))), ?_⟩
      have topE : topT = 1099511627776 := by decide
      refine ⟨_, rfl, d, g, c, T, 11, rfl, S, by omega, by decide, by decide, fun way H1 C1 S1 w0 w1 => ?_⟩
      obtain ⟨gx, hg1⟩ := S1.g
      refine ⟨_, rfl, lst_new (by show 4 ≤ 1000; decide) fun p np => ⟨d, g, c, T + 1, p, marksL.map V.str, rfl, S1.new np, upd_same, (ne_of_none hg1 np).symm, by decide, by decide, by omega, fun i m H2 hm C2 S2 => ⟨_, _, rfl, ?_⟩⟩⟩
      obtain ⟨m, hmk, rfl⟩ := pick_str hm
      have C2' : Ch d g H H2 := C1.trans ((Ch.new np).trans C2)
      clear C1 C2 np hg1 S1
      refine w_val (decide (1 < deep) && decide (5 < way)) (.and (fun Q' h => ⟨_, rfl, _, _, rfl, rfl, _, rfl, h⟩) fun _ Q' h => ⟨_, rfl, _, _, rfl, rfl, _, rfl, h⟩) ?_
      refine ite2 (fun hc => ?_) (fun hc => ?_)
      · rw [Bool.and_eq_true, decide_eq_true_eq, decide_eq_true_eq] at hc
        obtain ⟨c1, c2⟩ := hc
        refine ⟨_, rfl, _, _, rfl, rfl, _, rfl, ite2 (fun hw => ?_) (fun hw => ?_)⟩
        · -- pi, fun
          refine ⟨_, rfl, eq_f rfl rfl ⟨_, rfl, ?_⟩⟩
          refine ite2 (fun _ => ?_) (fun _ => ?_)
          all_goals
            refine ⟨_, rfl, _, rfl, _, rfl, _, rfl, _, _, rfl, rfl, _, rfl, d, g, c, T + 2, deep - 1, ahead, rfl, S2, by omega, by omega, by omega, a0, by omega, fun t1 v1 H3 C3 S3 D3 wf1 dp1 => ?_⟩
            refine ⟨_, rfl, _, rfl, _, _, rfl, rfl, _, rfl, add_i ⟨d, g, c, T + 2 + cost N, deep - 1, ahead + 1, rfl, S3, by omega, by omega, by omega, by omega, by omega, fun t2 v2 H4 C4 S4 D4 wf2 dp2 => ?_⟩⟩
            refine tup_new (K := K) (ds := [.str _, .str m, t1.pd, t2.pd]) (.cons (.str _) (.cons (.str m) (.cons (Dt.keep (C4.tk S3) _ D3) (.cons D4 .nil)))) (by show 4 ≤ 1000; decide) fun v H5 e hv => ?_
            exact k (.bin _ m t1 t2) v H5 ((C2'.trans (C3.trans C4)).ofSame e) ((S4.keep e).mono (by omega)) hv ⟨by first | exact .inl rfl | exact .inr rfl, hmk, wf1, wf2⟩ (by show ((1 + max t1.depth t2.depth : Nat) : Int) ≤ deep; omega)
        · refine ⟨_, rfl, eq_f rfl rfl ⟨_, rfl, ite2 (fun hw8 => ?_) (fun hw8 => ?_)⟩⟩
          · -- let
            refine ⟨_, rfl, _, rfl, _, _, rfl, rfl, _, rfl, d, g, c, T + 2, deep - 1, ahead, rfl, S2, by omega, by omega, by omega, a0, by omega, fun t1 v1 H3 C3 S3 D3 wf1 dp1 => ?_⟩
            refine ⟨_, rfl, _, rfl, _, _, rfl, rfl, _, rfl, d, g, c, T + 2 + cost N, deep - 1, ahead, rfl, S3, by omega, by omega, by omega, by omega, by omega, fun t2 v2 H4 C4 S4 D4 wf2 dp2 => ?_⟩
            refine ⟨_, rfl, _, rfl, _, _, rfl, rfl, _, rfl, add_i ⟨d, g, c, T + 2 + cost N + cost N, deep - 1, ahead + 1, rfl, S4, by omega, by omega, by omega, by omega, by omega, fun t3 v3 H5 C5 S5 D5 wf3 dp3 => ?_⟩⟩
            refine tup_new (K := K) (ds := [.str "let", t1.pd, t2.pd, t3.pd]) (.cons (.str _) (.cons (Dt.keep ((C4.trans C5).tk S3) _ D3) (.cons (Dt.keep (C5.tk S4) _ D4) (.cons D5 .nil)))) (by show 4 ≤ 1000; decide) fun v H6 e hv => ?_
            exact k (.letT t1 t2 t3) v H6 ((C2'.trans (C3.trans (C4.trans C5))).ofSame e) ((S5.keep e).mono (by omega)) hv ⟨wf1, wf2, wf3⟩ (by show ((1 + max t1.depth (max t2.depth t3.depth) : Nat) : Int) ≤ deep; omega)
          · -- app
            refine ⟨_, rfl, _, rfl, _, _, rfl, rfl, _, rfl, d, g, c, T + 2, deep - 1, ahead, rfl, S2, by omega, by omega, by omega, a0, by omega, fun t1 v1 H3 C3 S3 D3 wf1 dp1 => ?_⟩
            refine ⟨_, rfl, _, rfl, _, rfl, _, _, rfl, rfl, _, rfl, d, g, c, T + 2 + cost N, deep - 1, ahead, rfl, S3, by omega, by omega, by omega, by omega, by omega, fun t2 v2 H4 C4 S4 D4 wf2 dp2 => ?_⟩
            refine tup_new (K := K) (ds := [.str "app", t1.pd, .str m, t2.pd]) (.cons (.str _) (.cons (Dt.keep (C4.tk S3) _ D3) (.cons (.str m) (.cons D4 .nil)))) (by show 4 ≤ 1000; decide) fun v H5 e hv => ?_
            exact k (.app t1 m t2) v H5 ((C2'.trans (C3.trans C4)).ofSame e) ((S4.keep e).mono (by omega)) hv ⟨wf1, hmk, wf2⟩ (by show ((1 + max t1.depth t2.depth : Nat) : Int) ≤ deep; omega)
      · -- a leaf
        have leaf : ∀ (t : Tm), t.depth = 1 → (t.depth : Int) ≤ deep := fun t h => by rw [h]; omega
        refine ⟨_, rfl, d, g, c, T + 2, 4, rfl, S2, by omega, by decide, by decide, fun r1 H3 C3 S3 r10 r11 => ?_⟩
        refine tup_new (K := K) (ds := [.str "sort", .int r1]) (.cons (.str _) (.cons (.int _) .nil)) (by show 2 ≤ 1000; decide) fun v1 H4 e4 D1 => ?_
        refine ⟨_, rfl, d, g, c, T + 3, 4, rfl, S3.keep e4, by omega, by decide, by decide, fun r2 H5 C5 S5 r20 r21 => ?_⟩
        refine tup_new (K := K) (ds := [.str "local", .int r2]) (.cons (.str _) (.cons (.int _) .nil)) (by show 2 ≤ 1000; decide) fun v2 H6 e6 D2 => ?_
        have S6 := S5.keep e6
        obtain ⟨gx, hg6⟩ := S6.g
        refine ⟨_, rfl, lst_new (by show 4 ≤ 1000; decide) fun p np => ⟨d, g, c, T + 4, p, namesL.map V.str, rfl, S6.new np, upd_same, (ne_of_none hg6 np).symm, by decide, by decide, by omega, fun i3 x3 H7 hx3 C7 S7 => ?_⟩⟩
        obtain ⟨nm, hnm, rfl⟩ := pick_str hx3
        have C7' : Ch d g H6 H7 := (Ch.new np).trans C7
        refine tup_new (K := K) (ds := [.str "name", .str nm]) (.cons (.str _) (.cons (.str _) .nil)) (by show 2 ≤ 1000; decide) fun v3 H8 e8 D3 => ?_
        refine lst_new (by show 3 ≤ 1000; decide) fun l nl => ?_
        have S8 := S7.keep e8
        have S9 := S8.new (o := .lst [v1, v2, v3]) nl
        have h9 : upd H8 l (.lst [v1, v2, v3]) l = some (.lst [v1, v2, v3]) := upd_same
        obtain ⟨gx8, hg8⟩ := S8.g
        obtain ⟨dx8, hd8⟩ := S8.d
        have lg : l ≠ g := (ne_of_none hg8 nl).symm
        have ld : l ≠ d := (ne_of_none hd8 nl).symm
        have E1 : Dt K (upd H8 l (.lst [v1, v2, v3])) v1 (Tm.num "sort" r1).pd := Dt.keep ((C5.tk (S3.keep e4)).trans ((TK.same e6).trans ((C7'.tk S6).trans ((TK.same e8).trans (TK.new nl))))) _ D1
        have E2 : Dt K (upd H8 l (.lst [v1, v2, v3])) v2 (Tm.num "local" r2).pd := Dt.keep ((C7'.tk S6).trans ((TK.same e8).trans (TK.new nl))) _ D2
        have E3 : Dt K (upd H8 l (.lst [v1, v2, v3])) v3 (Tm.name nm).pd := Dt.keep (TK.new nl) _ D3
        have C9 : Ch d g H (upd H8 l (.lst [v1, v2, v3])) := (((C2'.trans C3).ofSame e4).trans ((C5.ofSame e6).trans (C7'.ofSame e8))).trans (Ch.new nl)
        generalize upd H8 l (.lst [v1, v2, v3]) = H9 at S9 h9 E1 E2 E3 C9
        clear D1 D2 D3 C7 C7' S7 S8 S6 S5 S3 C3 C5 e4 e6 e8 np nl hg6 hg8 hd8
        -- some + [count, bound]
        obtain ⟨gx9, hg9⟩ := S9.g
        refine ⟨_, rfl, _, rfl, _, _, rfl, rfl, ⟨by decide, by decide, by decide⟩, add_i ⟨_, _, rfl, rfl, ⟨by decide, by decide, by decide⟩, _, _, rfl, rfl, lst_new (by show 4 ≤ 1000; decide) fun p np => ?_⟩⟩
        refine ⟨d, g, c, T + 5, p, _, rfl, S9.new np, upd_same, (ne_of_none hg9 np).symm, by decide, by decide, by omega, fun i4 x4 H10 hx4 C10 S10 => ?_⟩
        obtain ⟨n4, rfl, n40, n41⟩ : ∃ n : Int, x4 = .int n ∧ 0 ≤ n ∧ n < 10 ^ 18 := by
          match i4, hx4 with
          | 0, e => exact ⟨_, (Option.some.inj e).symm, by decide, by decide⟩
          | 1, e => exact ⟨_, (Option.some.inj e).symm, by decide, by decide⟩
          | 2, e => exact ⟨_, (Option.some.inj e).symm, by decide, by decide⟩
          | 3, e => exact ⟨_, (Option.some.inj e).symm, by decide, by decide⟩
          | i + 4, e => simp at e
        have C10' : Ch d g H9 H10 := (Ch.new np).trans C10
        refine tup_new (K := K) (ds := [.str "count", .str "Num", .int n4]) (.cons (.str _) (.cons (.str _) (.cons (.int _) .nil))) (by show 3 ≤ 1000; decide) fun v4 H11 e11 D4 => ?_
        refine ⟨_, rfl, _, rfl, add_i ⟨d, g, c, T + 6, ahead + 2, rfl, S10.keep e11, by omega, by omega, by omega, fun r5 H12 C12 S12 r50 r51 => ?_⟩⟩
        refine tup_new (K := K) (ds := [.str "bound", .int r5]) (.cons (.str _) (.cons (.int _) .nil)) (by show 2 ≤ 1000; decide) fun v5 H13 e13 D5 => ?_
        refine lst_new (by show 2 ≤ 1000; decide) fun q nq => ?_
        have C13 : Ch d g H9 H13 := C10'.trans ((Ch.same e11).trans (C12.ofSame e13))
        have h13 : H13 l = some (.lst [v1, v2, v3]) := C13 l _ ld lg h9
        have S13 := S12.keep e13
        refine add_l ((upd_ne (ne_of_none h13 nq)).trans h13) upd_same (line_of (by show 5 ≤ 1000; decide)) fun r nr => ?_
        have K2 : TK K H13 (upd (upd H13 q (.lst [v4, v5])) r (.lst ([v1, v2, v3] ++ [v4, v5]))) := (TK.new nq).trans (TK.new nr)
        have E1' := Dt.keep ((C13.tk S9).trans K2) _ E1
        have E2' := Dt.keep ((C13.tk S9).trans K2) _ E2
        have E3' := Dt.keep ((C13.tk S9).trans K2) _ E3
        have E4' : Dt K (upd (upd H13 q (.lst [v4, v5])) r (.lst ([v1, v2, v3] ++ [v4, v5]))) v4 (Tm.count "Num" n4).pd := Dt.keep ((C12.tk (S10.keep e11)).trans ((TK.same e13).trans K2)) _ D4
        have E5' : Dt K (upd (upd H13 q (.lst [v4, v5])) r (.lst ([v1, v2, v3] ++ [v4, v5]))) v5 (Tm.num "bound" r5).pd := Dt.keep K2 _ D5
        have S14 : Stt (upd (upd H13 q (.lst [v4, v5])) r (.lst ([v1, v2, v3] ++ [v4, v5]))) d g c (T + 7) := (S13.new nq).new nr
        have h14 : (upd (upd H13 q (.lst [v4, v5])) r (.lst ([v1, v2, v3] ++ [v4, v5]))) r = some (.lst ([v1, v2, v3] ++ [v4, v5])) := upd_same
        have C14 : Ch d g H (upd (upd H13 q (.lst [v4, v5])) r (.lst ([v1, v2, v3] ++ [v4, v5]))) := C9.trans (C13.trans ((Ch.new nq).trans (Ch.new nr)))
        generalize upd (upd H13 q (.lst [v4, v5])) r (.lst ([v1, v2, v3] ++ [v4, v5])) = H14 at S14 h14 E1' E2' E3' E4' E5' C14 ⊢
        refine ⟨_, rfl, _, _, rfl, rfl, _, rfl, ite2 (fun hw => ?_) (fun hw => ?_)⟩
        · -- some[way]
          have hw' : way < 5 := of_decide_eq_true hw
          obtain ⟨j, rfl⟩ : ∃ j : Nat, way = j := ⟨way.toNat, by omega⟩
          obtain ⟨t, v, hv, ht, wf, dp⟩ : ∃ (t : Tm) (v : V), [v1, v2, v3, v4, v5][j]? = some v ∧ Dt K H14 v t.pd ∧ t.wf ∧ t.depth = 1 := by
            match j, hw' with
            | 0, _ => exact ⟨.num "sort" r1, v1, rfl, E1', .inl ⟨rfl, r10, r11⟩, rfl⟩
            | 1, _ => exact ⟨.num "local" r2, v2, rfl, E2', .inr ⟨.inl rfl, r20, by omega⟩, rfl⟩
            | 2, _ => exact ⟨.name nm, v3, rfl, E3', isWord_names hnm, rfl⟩
            | 3, _ => exact ⟨.count "Num" n4, v4, rfl, E4', ⟨isWord_Num, n40, n41⟩, rfl⟩
            | 4, _ => exact ⟨.num "bound" r5, v5, rfl, E5', .inr ⟨.inr (.inl rfl), r50, by omega⟩, rfl⟩
            | j + 5, h => omega
          exact ⟨_, rfl, _, rfl, .inl ⟨r, _, _, v, rfl, rfl, SqL.of h14, atI_nat hv, k t v H14 C14 (S14.mono (by omega)) ht wf (leaf t dp)⟩⟩
        · refine ⟨_, rfl, _, _, rfl, rfl, _, rfl, ite2 (fun ha => ?_) (fun ha => ?_)⟩
          · have ha' : 0 < ahead := of_decide_eq_true ha
            refine ⟨_, rfl, _, rfl, d, g, c, T + 7, ahead, rfl, S14, by omega, ha', by omega, fun r6 H15 C15 S15 r60 r61 => ?_⟩
            refine tup_new (K := K) (ds := [.str "bound", .int r6]) (.cons (.str _) (.cons (.int _) .nil)) (by show 2 ≤ 1000; decide) fun v6 H16 e16 D6 => ?_
            exact k (.num "bound" r6) v6 H16 ((C14.trans C15).ofSame e16) ((S15.keep e16).mono (by omega)) D6 (.inr ⟨.inr (.inl rfl), r60, by omega⟩) (leaf _ rfl)
          · refine ⟨_, rfl, d, g, c, T + 7, 3, rfl, S14, by omega, by decide, by decide, fun r6 H15 C15 S15 r60 r61 => ?_⟩
            refine tup_new (K := K) (ds := [.str "hole", .int r6]) (.cons (.str _) (.cons (.int _) .nil)) (by show 2 ≤ 1000; decide) fun v6 H16 e16 D6 => ?_
            exact k (.num "hole" r6) v6 H16 ((C14.trans C15).ofSame e16) ((S15.keep e16).mono (by omega)) D6 (.inr ⟨.inr (.inr rfl), r60, by omega⟩) (leaf _ rfl)
end
end RS

/-! Parts: the shapes of terms in the heap; the defs that tell a term's parts and leaves. -/
namespace RS
open PySem PySem.Spec PyProof.Rows L2

section
variable {K : PySem.W.Frag} {H : Hp} {v : V}
theorem Dt.tupI {ds : List PyData} (h : Dt K H v (.tuple ds)) : ∃ a xs, v = .ref a ∧ SqT K H a xs ∧ DtAll K H xs ds := by
  cases h with
  | tup h r => exact ⟨_, _, rfl, h, r⟩
theorem Dt.strI {x : Str} (h : Dt K H v (.str x)) : v = .str x := by cases h; rfl
theorem Dt.intI {x : Int} (h : Dt K H v (.int x)) : v = .int x := by cases h; rfl
theorem DtAll.consI {vs : List V} {d : PyData} {ds : List PyData} (h : DtAll K H vs (d :: ds)) : ∃ v ws, vs = v :: ws ∧ Dt K H v d ∧ DtAll K H ws ds := by
  cases h with
  | cons h r => exact ⟨_, _, rfl, h, r⟩
theorem DtAll.nilI {vs : List V} (h : DtAll K H vs []) : vs = [] := by cases h; rfl
theorem dt_num {w : Str} {n : Int} (h : Dt K H v (Tm.num w n).pd) : ∃ p, v = .ref p ∧ SqT K H p [.str w, .int n] := by
  obtain ⟨a, xs, rfl, hT, r⟩ := Dt.tupI h
  obtain ⟨v1, ws, rfl, d1, r⟩ := r.consI
  obtain ⟨v2, ws, rfl, d2, r⟩ := r.consI
  obtain rfl := r.nilI; obtain rfl := d1.strI; obtain rfl := d2.intI
  exact ⟨a, rfl, hT⟩
theorem dt_name {x : Str} (h : Dt K H v (Tm.name x).pd) : ∃ p, v = .ref p ∧ SqT K H p [.str "name", .str x] := by
  obtain ⟨a, xs, rfl, hT, r⟩ := Dt.tupI h
  obtain ⟨v1, ws, rfl, d1, r⟩ := r.consI
  obtain ⟨v2, ws, rfl, d2, r⟩ := r.consI
  obtain rfl := r.nilI; obtain rfl := d1.strI; obtain rfl := d2.strI
  exact ⟨a, rfl, hT⟩
theorem dt_count {x : Str} {n : Int} (h : Dt K H v (Tm.count x n).pd) : ∃ p, v = .ref p ∧ SqT K H p [.str "count", .str x, .int n] := by
  obtain ⟨a, xs, rfl, hT, r⟩ := Dt.tupI h
  obtain ⟨v1, ws, rfl, d1, r⟩ := r.consI
  obtain ⟨v2, ws, rfl, d2, r⟩ := r.consI
  obtain ⟨v3, ws, rfl, d3, r⟩ := r.consI
  obtain rfl := r.nilI; obtain rfl := d1.strI; obtain rfl := d2.strI; obtain rfl := d3.intI
  exact ⟨a, rfl, hT⟩
theorem dt_bin {w m : Str} {a b : Tm} (h : Dt K H v (Tm.bin w m a b).pd) : ∃ p va vb, v = .ref p ∧ SqT K H p [.str w, .str m, va, vb] ∧ Dt K H va a.pd ∧ Dt K H vb b.pd := by
  obtain ⟨p, xs, rfl, hT, r⟩ := Dt.tupI h
  obtain ⟨v1, ws, rfl, d1, r⟩ := r.consI
  obtain ⟨v2, ws, rfl, d2, r⟩ := r.consI
  obtain ⟨v3, ws, rfl, d3, r⟩ := r.consI
  obtain ⟨v4, ws, rfl, d4, r⟩ := r.consI
  obtain rfl := r.nilI; obtain rfl := d1.strI; obtain rfl := d2.strI
  exact ⟨p, v3, v4, rfl, hT, d3, d4⟩
theorem dt_let {a b c : Tm} (h : Dt K H v (Tm.letT a b c).pd) : ∃ p va vb vc, v = .ref p ∧ SqT K H p [.str "let", va, vb, vc] ∧ Dt K H va a.pd ∧ Dt K H vb b.pd ∧ Dt K H vc c.pd := by
  obtain ⟨p, xs, rfl, hT, r⟩ := Dt.tupI h
  obtain ⟨v1, ws, rfl, d1, r⟩ := r.consI
  obtain ⟨v2, ws, rfl, d2, r⟩ := r.consI
  obtain ⟨v3, ws, rfl, d3, r⟩ := r.consI
  obtain ⟨v4, ws, rfl, d4, r⟩ := r.consI
  obtain rfl := r.nilI; obtain rfl := d1.strI
  exact ⟨p, v2, v3, v4, rfl, hT, d2, d3, d4⟩
theorem dt_app {f x : Tm} {m : Str} (h : Dt K H v (Tm.app f m x).pd) : ∃ p vf vx, v = .ref p ∧ SqT K H p [.str "app", vf, .str m, vx] ∧ Dt K H vf f.pd ∧ Dt K H vx x.pd := by
  obtain ⟨p, xs, rfl, hT, r⟩ := Dt.tupI h
  obtain ⟨v1, ws, rfl, d1, r⟩ := r.consI
  obtain ⟨v2, ws, rfl, d2, r⟩ := r.consI
  obtain ⟨v3, ws, rfl, d3, r⟩ := r.consI
  obtain ⟨v4, ws, rfl, d4, r⟩ := r.consI
  obtain rfl := r.nilI; obtain rfl := d1.strI; obtain rfl := d3.strI
  exact ⟨p, v2, v4, rfl, hT, d2, d4⟩
end

/-! ### the word ahead, as a text -/
def Tm.word : Tm → Str
  | .num w _ => w
  | .name _ => "name"
  | .count _ _ => "count"
  | .bin w _ _ _ => w
  | .letT _ _ _ => "let"
  | .app _ _ _ => "app"
def Tm.isLeaf : Tm → Bool
  | .num _ _ => true
  | .name _ => true
  | .count _ _ => true
  | _ => false
def Tm.parts : Tm → List (Tm × Int)
  | .bin _ _ a b => [(a, 0), (b, 1)]
  | .letT a b c => [(a, 0), (b, 0), (c, 1)]
  | .app f _ x => [(f, 0), (x, 0)]
  | _ => []
def pdP (p : Tm × Int) : PyData := .tuple [p.1.pd, .int p.2]
theorem in2 (w a b : Str) : inV (.str w) [.str a, .str b] = (a == w || b == w) := by simp [inV, eqV]
def Tm.isBin : Tm → Bool
  | .bin _ _ _ _ => true
  | _ => false
def Tm.isLet : Tm → Bool
  | .letT _ _ _ => true
  | _ => false
def Tm.isApp : Tm → Bool
  | .app _ _ _ => true
  | _ => false
theorem wpf_sort : ((("pi" : Str) == ("sort" : Str)) || (("fun" : Str) == ("sort" : Str))) = false := by decide +kernel
theorem wpf_local : ((("pi" : Str) == ("local" : Str)) || (("fun" : Str) == ("local" : Str))) = false := by decide +kernel
theorem wpf_bound : ((("pi" : Str) == ("bound" : Str)) || (("fun" : Str) == ("bound" : Str))) = false := by decide +kernel
theorem wpf_hole : ((("pi" : Str) == ("hole" : Str)) || (("fun" : Str) == ("hole" : Str))) = false := by decide +kernel
theorem wpf_name : ((("pi" : Str) == ("name" : Str)) || (("fun" : Str) == ("name" : Str))) = false := by decide +kernel
theorem wpf_count : ((("pi" : Str) == ("count" : Str)) || (("fun" : Str) == ("count" : Str))) = false := by decide +kernel
theorem wpf_let : ((("pi" : Str) == ("let" : Str)) || (("fun" : Str) == ("let" : Str))) = false := by decide +kernel
theorem wpf_app : ((("pi" : Str) == ("app" : Str)) || (("fun" : Str) == ("app" : Str))) = false := by decide +kernel
theorem wpf_pi : ((("pi" : Str) == ("pi" : Str)) || (("fun" : Str) == ("pi" : Str))) = true := by decide +kernel
theorem wpf_fun : ((("pi" : Str) == ("fun" : Str)) || (("fun" : Str) == ("fun" : Str))) = true := by decide +kernel
theorem wf_pf {t : Tm} (h : t.wf) : ((("pi" : Str) == t.word) || (("fun" : Str) == t.word)) = t.isBin := by
  cases t with
  | num w n =>
    rcases h with ⟨rfl, _⟩ | ⟨rfl | rfl | rfl, _⟩
    · exact wpf_sort
    · exact wpf_local
    · exact wpf_bound
    · exact wpf_hole
  | name x => exact wpf_name
  | count x n => exact wpf_count
  | bin w m a b =>
    rcases h.1 with rfl | rfl
    · exact wpf_pi
    · exact wpf_fun
  | letT a b c => exact wpf_let
  | app f m x => exact wpf_app
theorem wlet_sort : decide (V.str ("sort" : Str) = V.str "let") = false := by decide +kernel
theorem wlet_local : decide (V.str ("local" : Str) = V.str "let") = false := by decide +kernel
theorem wlet_bound : decide (V.str ("bound" : Str) = V.str "let") = false := by decide +kernel
theorem wlet_hole : decide (V.str ("hole" : Str) = V.str "let") = false := by decide +kernel
theorem wlet_name : decide (V.str ("name" : Str) = V.str "let") = false := by decide +kernel
theorem wlet_count : decide (V.str ("count" : Str) = V.str "let") = false := by decide +kernel
theorem wlet_let : decide (V.str ("let" : Str) = V.str "let") = true := by decide +kernel
theorem wlet_app : decide (V.str ("app" : Str) = V.str "let") = false := by decide +kernel
theorem wlet_pi : decide (V.str ("pi" : Str) = V.str "let") = false := by decide +kernel
theorem wlet_fun : decide (V.str ("fun" : Str) = V.str "let") = false := by decide +kernel
theorem wf_let {t : Tm} (h : t.wf) : decide (V.str t.word = V.str "let") = t.isLet := by
  cases t with
  | num w n =>
    rcases h with ⟨rfl, _⟩ | ⟨rfl | rfl | rfl, _⟩
    · exact wlet_sort
    · exact wlet_local
    · exact wlet_bound
    · exact wlet_hole
  | name x => exact wlet_name
  | count x n => exact wlet_count
  | bin w m a b =>
    rcases h.1 with rfl | rfl
    · exact wlet_pi
    · exact wlet_fun
  | letT a b c => exact wlet_let
  | app f m x => exact wlet_app
theorem wapp_sort : decide (V.str ("sort" : Str) = V.str "app") = false := by decide +kernel
theorem wapp_local : decide (V.str ("local" : Str) = V.str "app") = false := by decide +kernel
theorem wapp_bound : decide (V.str ("bound" : Str) = V.str "app") = false := by decide +kernel
theorem wapp_hole : decide (V.str ("hole" : Str) = V.str "app") = false := by decide +kernel
theorem wapp_name : decide (V.str ("name" : Str) = V.str "app") = false := by decide +kernel
theorem wapp_count : decide (V.str ("count" : Str) = V.str "app") = false := by decide +kernel
theorem wapp_let : decide (V.str ("let" : Str) = V.str "app") = false := by decide +kernel
theorem wapp_app : decide (V.str ("app" : Str) = V.str "app") = true := by decide +kernel
theorem wapp_pi : decide (V.str ("pi" : Str) = V.str "app") = false := by decide +kernel
theorem wapp_fun : decide (V.str ("fun" : Str) = V.str "app") = false := by decide +kernel
theorem wf_app {t : Tm} (h : t.wf) : decide (V.str t.word = V.str "app") = t.isApp := by
  cases t with
  | num w n =>
    rcases h with ⟨rfl, _⟩ | ⟨rfl | rfl | rfl, _⟩
    · exact wapp_sort
    · exact wapp_local
    · exact wapp_bound
    · exact wapp_hole
  | name x => exact wapp_name
  | count x n => exact wapp_count
  | bin w m a b =>
    rcases h.1 with rfl | rfl
    · exact wapp_pi
    · exact wapp_fun
  | letT a b c => exact wapp_let
  | app f m x => exact wapp_app
/-- a term's tuple and its word ahead -/
theorem dt_word {K : PySem.W.Frag} {H : Hp} {v : V} {t : Tm} (h : Dt K H v t.pd) : ∃ p xs, v = .ref p ∧ SqT K H p (.str t.word :: xs) := by
  cases t with
  | num w n => obtain ⟨p, rfl, q⟩ := dt_num h; exact ⟨p, _, rfl, q⟩
  | name x => obtain ⟨p, rfl, q⟩ := dt_name h; exact ⟨p, _, rfl, q⟩
  | count x n => obtain ⟨p, rfl, q⟩ := dt_count h; exact ⟨p, _, rfl, q⟩
  | bin w m a b => obtain ⟨p, va, vb, rfl, q, _⟩ := dt_bin h; exact ⟨p, _, rfl, q⟩
  | letT a b c => obtain ⟨p, va, vb, vc, rfl, q, _⟩ := dt_let h; exact ⟨p, _, rfl, q⟩
  | app f m x => obtain ⟨p, vf, vx, rfl, q, _⟩ := dt_app h; exact ⟨p, _, rfl, q⟩
/-- an item of a tuple -/
theorem ixt {K : PySem.W.Frag} {p : Addr} {xs : List V} {i : Nat} {v : V} {H : Hp} {Q : VK} (h : SqT K H p xs) (hi : xs[i]? = some v) (q : Q v H) : rIx K (.ref p) (.int i) H Q := .inr (.inl ⟨p, xs, i, v, rfl, rfl, h, atI_nat hi, q⟩)
theorem ixl {K : PySem.W.Frag} {p : Addr} {xs : List V} {i : Nat} {v : V} {H : Hp} {Q : VK} (h : SqL K H p xs) (hi : xs[i]? = some v) (q : Q v H) : rIx K (.ref p) (.int i) H Q := .inl ⟨p, xs, i, v, rfl, rfl, h, atI_nat hi, q⟩

/-! ### own_parts -/
def spParts (K : PySem.W.Frag) : Sp := fun vs H Q _ => ∃ (v : V) (t : Tm), vs = [v] ∧ Dt K H v t.pd ∧ t.wf ∧ ∀ l xs H', Same H H' → H l = none → H' l = some (.lst xs) → DtAll K H' xs (t.parts.map pdP) → Q (.ref l) H'
theorem sqs {K : PySem.W.Frag} {H H' : Hp} {a : Addr} {xs : List V} (h : SqT K H a xs) (e : Same H H') : SqT K H' a xs := TK.same e _ _ h
theorem same2 {H H1 : Hp} {p : Addr} {o : HO} (e : Same H H1) (h : H1 p = none) : Same H (upd H1 p o) := e.trans (same_new h)
section
variable {P : Program} {w : World} {K : PySem.W.Frag} {mg : Str → Option Value} {base : Heap}
theorem sc_own_parts : FnScope ["term", "word"] ["term"] (defScope s_own_parts) := ⟨rfl, rfl, rfl, by decide +kernel, rfl, by decide +kernel, by decide +kernel⟩
theorem ok_own_parts {f : Addr} {fd : FuncData} (F : Fun K "own_parts" "own_parts" s_own_parts f fd) : FnOk P w K mg base CX0 1 f fd ["term"] (spParts K) := by
  refine F.ok sc_own_parts (fun vs H Q E h => ?_) (fun cdv A outer s H vs Q E hr h => ?_)
  · obtain ⟨v, t, rfl, _⟩ := h; rfl
  · obtain ⟨v, t, rfl, hv, wf, k⟩ := h
    have nd := sc_own_parts.nd
    have h1 := wf_pf wf
    have h2 := wf_let wf
    have h3 := wf_app wf
    obtain ⟨p, xs, rfl, hT⟩ := dt_word hv
    refine ⟨_, (pss_cons (ps_set (i := 1) nd rfl (Or.inl rfl) (pe_ix ix_seq (pv 0) pe_int (fun _ _ => rfl)))
      (pss_cons (ps_if (pt_cmpR uIn (pv 1) (pe_tupN (pa_cons pe_str (pa_cons pe_str pa_nil))) (by rfl))
        (pss_one (ps_ret (pe_lstN (pa_cons (pe_tupN (pa_cons (pe_ix ix_seq (pv 0) pe_int (fun _ _ => rfl)) (pa_cons pe_int pa_nil))) (pa_cons (pe_tupN (pa_cons (pe_ix ix_seq (pv 0) pe_int (fun _ _ => rfl)) (pa_cons pe_int pa_nil))) pa_nil)))))
        pss_nil)
      (pss_cons (ps_if (pt_cmpR (uEq hr.units) (pv 1) pe_str (nomark _))
        (pss_one (ps_ret (pe_lstN (pa_cons (pe_tupN (pa_cons (pe_ix ix_seq (pv 0) pe_int (fun _ _ => rfl)) (pa_cons pe_int pa_nil))) (pa_cons (pe_tupN (pa_cons (pe_ix ix_seq (pv 0) pe_int (fun _ _ => rfl)) (pa_cons pe_int pa_nil))) (pa_cons (pe_tupN (pa_cons (pe_ix ix_seq (pv 0) pe_int (fun _ _ => rfl)) (pa_cons pe_int pa_nil))) pa_nil))))))
        pss_nil)
      (pss_one (ps_ret (pe_ifExp (pt_cmpR (uEq hr.units) (pv 1) pe_str (nomark _)) (pe_lstN (pa_cons (pe_tupN (pa_cons (pe_ix ix_seq (pv 0) pe_int (fun _ _ => rfl)) (pa_cons pe_int pa_nil))) (pa_cons (pe_tupN (pa_cons (pe_ix ix_seq (pv 0) pe_int (fun _ _ => rfl)) (pa_cons pe_int pa_nil))) pa_nil))) (pe_lstN pa_nil))))))), ?_⟩
    refine ⟨_, rfl, ixt (i := 0) hT rfl ?_⟩
    refine ⟨_, rfl, tup_at (by show 2 ≤ 1000; decide) fun q nq => in_t (SqT.of upd_same) rfl rfl (by rw [in2, h1]) ⟨_, rfl, ?_⟩⟩
    have e0 := same_new (o := .tup [V.str "pi", V.str "fun"]) nq
    cases t with
    | bin w m a b =>
      obtain ⟨p', va, vb, e, hB, ha, hb⟩ := dt_bin hv
      cases e
      refine iteT ⟨_, rfl, ixt (i := 2) (sqs hB e0) rfl (tup_new (K := K) (ds := [a.pd, .int 0]) (.cons (ha.same e0) (.cons (.int 0) .nil)) (by show 2 ≤ 1000; decide) fun v1 H1 e1 d1 => ?_)⟩
      refine ⟨_, rfl, ixt (i := 3) (sqs (sqs hB e0) e1) rfl (tup_new (K := K) (ds := [b.pd, .int 1]) (.cons ((hb.same e0).same e1) (.cons (.int 1) .nil)) (by show 2 ≤ 1000; decide) fun v2 H2 e2 d2 => lst_new (by show 2 ≤ 1000; decide) fun l nl => ?_)⟩
      exact k l _ _ (same2 (e0.trans (e1.trans e2)) nl) ((e0.trans (e1.trans e2)).free nl) upd_same (DtAll.keep (TK.new nl) _ (.cons (d1.same e2) (.cons d2 .nil)))
    | letT a b c =>
      obtain ⟨p', va, vb, vc, e, hB, ha, hb, hc⟩ := dt_let hv
      cases e
      refine iteF ⟨_, rfl, eq_f rfl (by rw [h2]; rfl) ⟨_, rfl, iteT ?_⟩⟩
      refine ⟨_, rfl, ixt (i := 1) (sqs hB e0) rfl (tup_new (K := K) (ds := [a.pd, .int 0]) (.cons (ha.same e0) (.cons (.int 0) .nil)) (by show 2 ≤ 1000; decide) fun v1 H1 e1 d1 => ?_)⟩
      refine ⟨_, rfl, ixt (i := 2) (sqs (sqs hB e0) e1) rfl (tup_new (K := K) (ds := [b.pd, .int 0]) (.cons ((hb.same e0).same e1) (.cons (.int 0) .nil)) (by show 2 ≤ 1000; decide) fun v2 H2 e2 d2 => ?_)⟩
      refine ⟨_, rfl, ixt (i := 3) (sqs (sqs (sqs hB e0) e1) e2) rfl (tup_new (K := K) (ds := [c.pd, .int 1]) (.cons (((hc.same e0).same e1).same e2) (.cons (.int 1) .nil)) (by show 2 ≤ 1000; decide) fun v3 H3 e3 d3 => lst_new (by show 3 ≤ 1000; decide) fun l nl => ?_)⟩
      have ee := e0.trans (e1.trans (e2.trans e3))
      exact k l _ _ (same2 ee nl) (ee.free nl) upd_same (DtAll.keep (TK.new nl) _ (.cons ((d1.same e2).same e3) (.cons (d2.same e3) (.cons d3 .nil))))
    | app f m x =>
      obtain ⟨p', vf, vx, e, hB, ha, hb⟩ := dt_app hv
      cases e
      refine iteF ⟨_, rfl, eq_f rfl (by rw [h2]; rfl) ⟨_, rfl, iteF ⟨_, rfl, eq_f rfl (by rw [h3]; rfl) ⟨_, rfl, iteT ?_⟩⟩⟩⟩
      refine ⟨_, rfl, ixt (i := 1) (sqs hB e0) rfl (tup_new (K := K) (ds := [f.pd, .int 0]) (.cons (ha.same e0) (.cons (.int 0) .nil)) (by show 2 ≤ 1000; decide) fun v1 H1 e1 d1 => ?_)⟩
      refine ⟨_, rfl, ixt (i := 3) (sqs (sqs hB e0) e1) rfl (tup_new (K := K) (ds := [x.pd, .int 0]) (.cons ((hb.same e0).same e1) (.cons (.int 0) .nil)) (by show 2 ≤ 1000; decide) fun v2 H2 e2 d2 => lst_new (by show 2 ≤ 1000; decide) fun l nl => ?_)⟩
      exact k l _ _ (same2 (e0.trans (e1.trans e2)) nl) ((e0.trans (e1.trans e2)).free nl) upd_same (DtAll.keep (TK.new nl) _ (.cons (d1.same e2) (.cons d2 .nil)))
    | num w n => exact iteF ⟨_, rfl, eq_f rfl (by rw [h2]; rfl) ⟨_, rfl, iteF ⟨_, rfl, eq_f rfl (by rw [h3]; rfl) ⟨_, rfl, iteF (lst_new (Nat.zero_le _) fun l nl => k l _ _ (same2 e0 nl) (e0.free nl) upd_same .nil)⟩⟩⟩⟩
    | name x => exact iteF ⟨_, rfl, eq_f rfl (by rw [h2]; rfl) ⟨_, rfl, iteF ⟨_, rfl, eq_f rfl (by rw [h3]; rfl) ⟨_, rfl, iteF (lst_new (Nat.zero_le _) fun l nl => k l _ _ (same2 e0 nl) (e0.free nl) upd_same .nil)⟩⟩⟩⟩
    | count x n => exact iteF ⟨_, rfl, eq_f rfl (by rw [h2]; rfl) ⟨_, rfl, iteF ⟨_, rfl, eq_f rfl (by rw [h3]; rfl) ⟨_, rfl, iteF (lst_new (Nat.zero_le _) fun l nl => k l _ _ (same2 e0 nl) (e0.free nl) upd_same .nil)⟩⟩⟩⟩
end
end RS

/-! Leaf4: the texts of leaves, read and written, in plain Lean. -/
namespace RS
open PySem PySem.Spec PyProof.Rows L2 TL

def leafN (w : Str) (o : Option Nat) : Option Tm := match o with
  | some n => if n ≤ 1000000 then some (.num w n) else none
  | none => none
def setL : List Str := ["0", "1", "2", "3"]
def isSet (z : Str) : Bool := decide (cutS z none (some (3 : Nat)) = "Set") && setL.any fun d => decide (cutS z (some (3 : Nat)) none = d)
def colonLeaf (z : Str) : Option Tm := match Txt.splitMax z ":" 1 with
  | [k, m] => (match readNum m with
    | some n => if isWord k = true then some (.count k n) else none
    | none => none)
  | _ => none
def restLeaf (z : Str) : Option Tm := if 58 ∈ cl z then colonLeaf z else if isWord z = true then some (.name z) else none
def readLeaf (z : Str) : Option Tm := if isSet z = true then some (.num "sort" ((readNum (cutS z (some (3 : Nat)) none)).getD 0 : Nat)) else
  match cl z with
  | 35 :: _ => leafN "bound" (readNum (cutS z (some (1 : Nat)) none))
  | 36 :: _ => leafN "local" (readNum (cutS z (some (1 : Nat)) none))
  | 63 :: _ => leafN "hole" (readNum (cutS z (some (1 : Nat)) none))
  | _ => restLeaf z
/-- the law's own -/
def numLe (z : Str) (most : Nat) : Bool := match readNum z with
  | some n => decide (n ≤ most)
  | none => false
def set4 : List Str := ["Set0", "Set1", "Set2", "Set3"]
def colonL (z : Str) : Bool := match Txt.splitMax z ":" 1 with
  | [a, b] => isWord a && numLe b (10 ^ 18)
  | _ => false
def isLeafL (z : Str) : Bool := if inV (.str z) (set4.map V.str) = true ∨ isWord z = true then true else
  match cl z with
  | 35 :: _ => numLe (cutS z (some (1 : Nat)) none) (10 ^ 6)
  | 36 :: _ => numLe (cutS z (some (1 : Nat)) none) (10 ^ 6)
  | 63 :: _ => numLe (cutS z (some (1 : Nat)) none) (10 ^ 6)
  | _ => colonL z
theorem inV_str (z : Str) (l : List Str) : inV (.str z) (l.map V.str) = decide (z ∈ l) := by
  induction l with
  | nil => simp [inV]
  | cons a l ih =>
    have e : inV (.str z) ((a :: l).map V.str) = (eqV (.str a) (.str z) || inV (.str z) (l.map V.str)) := by simp [inV]
    rw [e, ih]
    have e2 : eqV (.str a) (.str z) = decide (z = a) := by
      show (a == z) = _
      by_cases h : z = a
      · subst h; simp
      · rw [decide_eq_false h]; simpa using fun q => h q.symm
    rw [e2, Bool.eq_iff_iff]
    simp
theorem word_spec {z : Str} (h : isWord z = true) : ∃ c cs, cl z = c :: cs ∧ (c :: cs).length ≤ 16 ∧ z ∉ keptL ∧ c ∈ cl alphaS ∧ ∀ d ∈ c :: cs, d ∈ cl allS := by
  unfold isWord at h
  rw [inV_str] at h
  cases e : cl z with
  | nil => rw [e] at h; cases h
  | cons c cs =>
    rw [e] at h
    simp only [Bool.and_eq_true, decide_eq_true_eq, List.all_eq_true, Bool.not_eq_true', decide_eq_false_iff_not] at h
    exact ⟨c, cs, rfl, h.1.1.1, h.1.1.2, h.1.2, h.2⟩
theorem word_no {z : Str} (h : isWord z = true) {d : Nat} (hd : d ∉ cl allS) : d ∉ cl z := fun m => by
  obtain ⟨c, cs, e, _, _, _, h2⟩ := word_spec h
  rw [e] at m
  exact hd (h2 d m)
theorem alpha_no (d : Nat) (hd : d = 35 ∨ d = 36 ∨ d = 63 ∨ d = 40 ∨ d = 41) : d ∉ cl alphaS := by
  rcases hd with rfl | rfl | rfl | rfl | rfl <;> decide +kernel
theorem no58 : 58 ∉ cl allS := by decide +kernel
theorem no32 : 32 ∉ cl allS := by decide +kernel
theorem isSet_iff (z : Str) : isSet z = decide (z ∈ set4) := by
  unfold isSet
  rw [Bool.eq_iff_iff, Bool.and_eq_true, decide_eq_true_eq, decide_eq_true_eq, List.any_eq_true]
  have h3 := cutS_to z 3
  have h3' := cutS_from z 3
  constructor
  · rintro ⟨h1, d, hd, h2⟩
    have h2 := of_decide_eq_true h2
    rw [h1] at h3; rw [h2] at h3'
    have key : cl z = cl ("Set" : Str) ++ cl d := by rw [h3, h3', List.take_append_drop]
    simp only [setL, List.mem_cons, List.not_mem_nil, or_false] at hd
    simp only [set4, List.mem_cons, List.not_mem_nil, or_false]
    rcases hd with rfl | rfl | rfl | rfl
    · exact .inl (str_ext (key.trans (by decide +kernel)))
    · exact .inr (.inl (str_ext (key.trans (by decide +kernel))))
    · exact .inr (.inr (.inl (str_ext (key.trans (by decide +kernel)))))
    · exact .inr (.inr (.inr (str_ext (key.trans (by decide +kernel)))))
  · intro h
    simp only [set4, List.mem_cons, List.not_mem_nil, or_false] at h
    rcases h with rfl | rfl | rfl | rfl
    · exact ⟨by decide +kernel, "0", by decide +kernel, by decide +kernel⟩
    · exact ⟨by decide +kernel, "1", by decide +kernel, by decide +kernel⟩
    · exact ⟨by decide +kernel, "2", by decide +kernel, by decide +kernel⟩
    · exact ⟨by decide +kernel, "3", by decide +kernel, by decide +kernel⟩
theorem set_kept {z : Str} (h : z ∈ set4) : z ∈ keptL := by
  simp only [set4, List.mem_cons, List.not_mem_nil, or_false] at h
  rcases h with rfl | rfl | rfl | rfl <;> decide +kernel
theorem leafN_some {w : Str} {z : Str} : (leafN w (readNum z)).isSome = numLe z (10 ^ 6) := by
  unfold leafN numLe
  cases readNum z with
  | none => rfl
  | some n =>
    dsimp only
    by_cases h : n ≤ 1000000
    · rw [if_pos h, decide_eq_true (by omega)]; rfl
    · rw [if_neg h, decide_eq_false (by omega)]; rfl
theorem colon_some (z : Str) : (colonLeaf z).isSome = colonL z := by
  unfold colonLeaf colonL numLe
  split
  · rename_i k m _
    cases e : readNum m with
    | none => simp
    | some n =>
      have := (readNum_lt e).1
      dsimp only
      rw [decide_eq_true (show n ≤ 10 ^ 18 by omega), Bool.and_true]
      by_cases h : isWord k = true
      · simp [h]
      · simp [h]
  · rfl
theorem rest_some {z : Str} (hw : ¬ isWord z = true) : (restLeaf z).isSome = colonL z := by
  unfold restLeaf
  by_cases h : 58 ∈ cl z
  · rw [if_pos h, colon_some]
  · rw [if_neg h, if_neg hw]
    unfold colonL
    rw [splitMax_no h]
    rfl
/-- the law's own judge of leaves says where a leaf is read -/
theorem leaf_iff (z : Str) : isLeafL z = (readLeaf z).isSome := by
  unfold isLeafL readLeaf
  rw [isSet_iff, inV_str]
  by_cases hs : z ∈ set4
  · rw [if_pos (.inl (decide_eq_true hs)), if_pos (decide_eq_true hs)]; rfl
  · rw [if_neg (show ¬ decide (z ∈ set4) = true by simpa using hs)]
    by_cases hw : isWord z = true
    · rw [if_pos (.inr hw)]
      obtain ⟨c, cs, e, _, _, hc, _⟩ := word_spec hw
      have n1 := alpha_no
      rw [e]
      have hne : ∀ d, (d = 35 ∨ d = 36 ∨ d = 63 ∨ d = 40 ∨ d = 41) → c ≠ d := fun d hd q => n1 d hd (q ▸ hc)
      have hr : restLeaf z = some (.name z) := by unfold restLeaf; rw [if_neg (word_no hw no58), if_pos hw]
      split
      · rename_i q; injection q with q _; exact absurd q (hne 35 (by simp))
      · rename_i q; injection q with q _; exact absurd q (hne 36 (by simp))
      · rename_i q; injection q with q _; exact absurd q (hne 63 (by simp))
      · rw [hr]; rfl
    · rw [if_neg (by simp [hs, hw])]
      split
      · rw [leafN_some]
      · rw [leafN_some]
      · rw [leafN_some]
      · rw [rest_some hw]
/-! ### a leaf's text -/
def signOf (w : Str) : Str := if w = "sort" then "Set" else if w = "bound" then "#" else if w = "local" then "$" else "?"
def leafText : Tm → Str
  | .num w n => signOf w ++ Str.ofString (toString n)
  | .name x => x
  | .count x n => x ++ ":" ++ Str.ofString (toString n)
  | _ => ""
theorem cl_app (a b : Str) : cl (a ++ b) = cl a ++ cl b := tl_append a b
theorem sign_leaf {z w s : Str} {t : Tm} {c : Nat} {r : List Nat} (e : cl z = c :: r) (hs : cl s = [c]) (hw : w = "local" ∨ w = "bound" ∨ w = "hole") (hso : signOf w = s) (h : leafN w (readNum (cutS z (some (1 : Nat)) none)) = some t) : t.isLeaf = true ∧ t.wf ∧ leafText t = z := by
  unfold leafN at h
  cases q : readNum (cutS z (some (1 : Nat)) none) with
  | none => rw [q] at h; cases h
  | some n =>
    rw [q] at h
    dsimp only at h
    by_cases hn : n ≤ 1000000
    · rw [if_pos hn] at h
      cases h
      refine ⟨rfl, .inr ⟨hw, by omega, by omega⟩, str_ext ?_⟩
      have := (readNum_lt q).2
      show cl (signOf w ++ numS n) = _
      rw [hso, cl_app, hs, this, cutS_from, e]
      rfl
    · rw [if_neg hn] at h; cases h
theorem leaf_text {z : Str} {t : Tm} (h : readLeaf z = some t) : t.isLeaf = true ∧ t.wf ∧ leafText t = z := by
  unfold readLeaf at h
  by_cases hs : isSet z = true
  · rw [if_pos hs] at h
    rw [isSet_iff, decide_eq_true_eq] at hs
    have hz : ∀ (k : Nat) (d : Str), cl (cutS z (some (3 : Nat)) none) = cl d → readNum d = some k → k < 4 → numS k = d → z = "Set" ++ d → t.isLeaf = true ∧ t.wf ∧ leafText t = z := fun k d e1 e2 e3 e4 e5 => by
      rw [str_ext e1, e2] at h
      cases h
      refine ⟨rfl, .inl ⟨rfl, by show (0 : Int) ≤ (k : Int); omega, by show (k : Int) < 4; omega⟩, ?_⟩
      show signOf "sort" ++ numS k = z
      rw [e4, e5]; rfl
    simp only [set4, List.mem_cons, List.not_mem_nil, or_false] at hs
    rcases hs with rfl | rfl | rfl | rfl
    · exact hz 0 "0" (by decide +kernel) (by decide +kernel) (by decide) (by decide +kernel) (by decide +kernel)
    · exact hz 1 "1" (by decide +kernel) (by decide +kernel) (by decide) (by decide +kernel) (by decide +kernel)
    · exact hz 2 "2" (by decide +kernel) (by decide +kernel) (by decide) (by decide +kernel) (by decide +kernel)
    · exact hz 3 "3" (by decide +kernel) (by decide +kernel) (by decide) (by decide +kernel) (by decide +kernel)
  · rw [if_neg hs] at h
    split at h
    · rename_i e; exact sign_leaf (s := "#") e (by decide +kernel) (.inr (.inl rfl)) (by decide +kernel) h
    · rename_i e; exact sign_leaf (s := "$") e (by decide +kernel) (.inl rfl) (by decide +kernel) h
    · rename_i e; exact sign_leaf (s := "?") e (by decide +kernel) (.inr (.inr rfl)) (by decide +kernel) h
    · unfold restLeaf at h
      by_cases hc : 58 ∈ cl z
      · rw [if_pos hc] at h
        obtain ⟨a, b, rfl, ha⟩ := colon_split hc
        unfold colonLeaf at h
        rw [splitMax_at ha] at h
        simp only at h
        cases q : readNum b with
        | none => rw [q] at h; cases h
        | some n =>
          rw [q] at h
          simp only at h
          by_cases hw : isWord a = true
          · rw [if_pos hw] at h
            cases h
            have := readNum_lt q
            refine ⟨rfl, ⟨hw, by show (0 : Int) ≤ (n : Int); omega, by show (n : Int) < 10 ^ 18; omega⟩, ?_⟩
            show a ++ ":" ++ numS n = _
            rw [this.2]
          · rw [if_neg hw] at h; cases h
      · rw [if_neg hc] at h
        by_cases hw : isWord z = true
        · rw [if_pos hw] at h; cases h; exact ⟨rfl, hw, rfl⟩
        · rw [if_neg hw] at h; cases h
theorem not_set {z : Str} {c : Nat} {r : List Nat} (e : cl z = c :: r) (hc : c ≠ 83) : ¬ isSet z = true := by
  rw [isSet_iff, decide_eq_true_eq]
  intro h
  simp only [set4, List.mem_cons, List.not_mem_nil, or_false] at h
  have : ∀ s : Str, (cl s).head? = some 83 → z = s → False := fun s hs q => by
    subst q; rw [e] at hs; exact hc (Option.some.inj hs)
  rcases h with h | h | h | h
  · exact this _ (by decide +kernel) h
  · exact this _ (by decide +kernel) h
  · exact this _ (by decide +kernel) h
  · exact this _ (by decide +kernel) h
theorem readLeaf_sign {w s : Str} {n c : Nat} (hn : n ≤ 1000000) (hs : cl s = [c]) (h : ∀ z r, cl z = c :: r → ¬ isSet z = true → readLeaf z = leafN w (readNum (cutS z (some (1 : Nat)) none))) (hc : c ≠ 83) : readLeaf (s ++ numS n) = some (.num w n) := by
  have e : cl (s ++ numS n) = c :: cl (numS n) := by rw [cl_app, hs]; rfl
  rw [h _ _ e (not_set e hc)]
  have e2 : cutS (s ++ numS n) (some (1 : Nat)) none = numS n := str_ext (by rw [cutS_from, e]; rfl)
  rw [e2, readNum_numS (by omega)]
  unfold leafN
  simp only
  rw [if_pos hn]
/-- a leaf is read back -/
theorem leaf_back {t : Tm} (hl : t.isLeaf = true) (h : t.wf) : readLeaf (leafText t) = some t := by
  cases t with
  | num w n =>
    rcases h with ⟨rfl, h0, h4⟩ | ⟨hw, h0, h1⟩
    · have : n = 0 ∨ n = 1 ∨ n = 2 ∨ n = 3 := by omega
      have key : ∀ k : Nat, isSet (leafText (.num "sort" k)) = true → readNum (cutS (leafText (.num "sort" k)) (some (3 : Nat)) none) = some k → readLeaf (leafText (.num "sort" k)) = some (.num "sort" k) := fun k e1 e2 => by
        unfold readLeaf
        rw [if_pos e1, e2]; rfl
      rcases this with rfl | rfl | rfl | rfl
      · exact key 0 (by decide +kernel) (by decide +kernel)
      · exact key 1 (by decide +kernel) (by decide +kernel)
      · exact key 2 (by decide +kernel) (by decide +kernel)
      · exact key 3 (by decide +kernel) (by decide +kernel)
    · obtain ⟨k, rfl⟩ : ∃ k : Nat, n = k := ⟨n.toNat, by omega⟩
      rcases hw with rfl | rfl | rfl
      · show readLeaf ("$" ++ numS k) = _
        exact readLeaf_sign (c := 36) (by omega) (by decide +kernel) (fun z r e hs => by unfold readLeaf; rw [if_neg hs, e]; rfl) (by decide)
      · show readLeaf ("#" ++ numS k) = _
        exact readLeaf_sign (c := 35) (by omega) (by decide +kernel) (fun z r e hs => by unfold readLeaf; rw [if_neg hs, e]; rfl) (by decide)
      · show readLeaf ("?" ++ numS k) = _
        exact readLeaf_sign (c := 63) (by omega) (by decide +kernel) (fun z r e hs => by unfold readLeaf; rw [if_neg hs, e]; rfl) (by decide)
  | name x =>
    have hw : isWord x = true := h
    obtain ⟨c, cs, e, _, hk, hc, _⟩ := word_spec hw
    have hns : ¬ isSet x = true := by rw [isSet_iff, decide_eq_true_eq]; exact fun q => hk (set_kept q)
    show readLeaf x = _
    unfold readLeaf
    rw [if_neg hns, e]
    have hne : ∀ d, (d = 35 ∨ d = 36 ∨ d = 63 ∨ d = 40 ∨ d = 41) → c ≠ d := fun d hd q => alpha_no d hd (q ▸ hc)
    have hr : restLeaf x = some (.name x) := by unfold restLeaf; rw [if_neg (word_no hw no58), if_pos hw]
    split
    · rename_i q; injection q with q _; exact absurd q (hne 35 (by simp))
    · rename_i q; injection q with q _; exact absurd q (hne 36 (by simp))
    · rename_i q; injection q with q _; exact absurd q (hne 63 (by simp))
    · exact hr
  | count x n =>
    obtain ⟨hw, h0, h1⟩ := h
    obtain ⟨k, rfl⟩ : ∃ k : Nat, n = k := ⟨n.toNat, by omega⟩
    obtain ⟨c, cs, e, _, hk, hc, _⟩ := word_spec hw
    show readLeaf (x ++ ":" ++ numS k) = _
    have e58 : 58 ∈ cl (x ++ ":" ++ numS k) := by rw [cl_app, cl_app, show cl (":" : Str) = [58] by decide +kernel]; simp
    have hns : ¬ isSet (x ++ ":" ++ numS k) = true := by
      rw [isSet_iff, decide_eq_true_eq]
      intro q
      simp only [set4, List.mem_cons, List.not_mem_nil, or_false] at q
      have no : ∀ s : Str, 58 ∉ cl s → x ++ ":" ++ numS k = s → False := fun s hs q => hs (q ▸ e58)
      rcases q with q | q | q | q
      · exact no _ (by decide +kernel) q
      · exact no _ (by decide +kernel) q
      · exact no _ (by decide +kernel) q
      · exact no _ (by decide +kernel) q
    have ez : cl (x ++ ":" ++ numS k) = c :: (cs ++ cl ":" ++ cl (numS k)) := by rw [cl_app, cl_app, e]; rfl
    unfold readLeaf
    rw [if_neg hns]
    have hne : ∀ d, (d = 35 ∨ d = 36 ∨ d = 63 ∨ d = 40 ∨ d = 41) → c ≠ d := fun d hd q => alpha_no d hd (q ▸ hc)
    have hr : restLeaf (x ++ ":" ++ numS k) = some (.count x k) := by
      unfold restLeaf colonLeaf
      rw [if_pos e58, splitMax_at (word_no hw no58)]
      simp only
      rw [readNum_numS (by omega)]
      simp only
      rw [if_pos hw]
    rw [ez]
    split
    · rename_i q; injection q with q _; exact absurd q (hne 35 (by simp))
    · rename_i q; injection q with q _; exact absurd q (hne 36 (by simp))
    · rename_i q; injection q with q _; exact absurd q (hne 63 (by simp))
    · exact hr
  | bin w m a b => cases hl
  | letT a b c => cases hl
  | app f m x => cases hl
end RS

/-! Judge4: is_whole, is_number, is_word, is_mark, is_node. -/
namespace RS
open PySem PySem.Spec PyProof.Rows L2 TL

def wholeB : PyData → Bool
  | .int i => decide (-(10 ^ 18) < i) && decide (i < 10 ^ 18)
  | _ => false
def numberB (lo hi : Int) (d : PyData) : Bool := wholeB d && (match d with
  | .int i => decide (lo ≤ i) && decide (i ≤ hi)
  | _ => false)
def wordB : PyData → Bool
  | .str z => isWord z
  | _ => false
def markB : PyData → Bool
  | .str z => decide (z ∈ markL)
  | _ => false
def spWhole (K : PySem.W.Frag) : Sp := fun vs H Q _ => ∃ v d, vs = [v] ∧ Dt K H v d ∧ Q (.bl (wholeB d)) H
def spNumber (K : PySem.W.Frag) : Sp := fun vs H Q _ => ∃ v d lo hi, vs = [v, .int lo, .int hi] ∧ Dt K H v d ∧ Q (.bl (numberB lo hi d)) H
def spMark (K : PySem.W.Frag) : Sp := fun vs H Q _ => ∃ v d, vs = [v] ∧ Dt K H v d ∧ Q (.bl (markB d)) H
def spWord (K : PySem.W.Frag) : Sp := fun vs H Q _ => ∃ v d, vs = [v] ∧ Dt K H v d ∧ (∀ z, d = .str z → z.length ≤ 100000) ∧ ∀ H', Same H H' → Q (.bl (wordB d)) H'
/-- the same as the unifier meets it: a structure -/
structure rIsU (K : PySem.W.Frag) (xs : List V) (H : Hp) (Q : VK) : Prop where
  h : rIsi K xs H Q
theorem call_isU {X : Cx} : CallR X (.builtin "isinstance") (rIsU X.K) := fun pins s σ H xs us Q I r h => call_isi pins s σ H xs us Q I r h.h
theorem isi_u {K : PySem.W.Frag} {H : Hp} {Q : VK} {v : V} {t n : String} {b : Bool} (h : TyX K H v (.type t)) (e : L2.kitB t n = some b) (q : Q (.bl b) H) : rIsU K [v, .ty n] H Q := ⟨isi_b h e q⟩
/-- a constant of the module that is a tuple of texts -/
def KTup (K : PySem.W.Frag) (a : Addr) (xs : List Str) : Prop := ∀ H, SqT K H a (xs.map V.str)
theorem flat_strs (xs : List Str) : (xs.map V.str).all flatV = true := by
  induction xs with
  | nil => rfl
  | cons x xs ih => rw [List.map_cons, List.all_cons, ih]; rfl
section
variable {P : Program} {w : World} {K : PySem.W.Frag} {mg : Str → Option Value} {base : Heap}
theorem sc_is_whole : FnScope ["value"] ["value"] (defScope s_is_whole) := ⟨rfl, rfl, rfl, by decide +kernel, rfl, by decide +kernel, by decide +kernel⟩
theorem ok_whole {f : Addr} {fd : FuncData} (F : Fun K "is_whole" "is_whole" s_is_whole f fd) (n_isinstance : mg "isinstance" = none) (n_int : mg "int" = none) (n_bool : mg "bool" = none) : FnOk P w K mg base CX0 1 f fd ["value"] (spWhole K) := by
  refine F.ok sc_is_whole (fun vs H Q E h => ?_) (fun cdv A outer s H vs Q E hr h => ?_)
  · obtain ⟨v, d, rfl, _⟩ := h; rfl
  · obtain ⟨v, d, rfl, hv, k⟩ := h
    have nd := sc_is_whole.nd
    refine ⟨_, (pss_one (ps_ret (pe_and (pe_callB call_isU (by rfl) n_isinstance (by decide +kernel) (pa_cons (pv 0) (pa_cons (pe_bltn (v := .ty "int") rfl n_int (by decide +kernel) rfl) pa_nil))) (pe_and (pe_not (pe_callB call_isU (by rfl) n_isinstance (by decide +kernel) (pa_cons (pv 0) (pa_cons (pe_bltn (v := .ty "bool") rfl n_bool (by decide +kernel) rfl) pa_nil)))) (pe_one (pe_chain op_lt op_lt (pe_un un_neg (pe_op op_pow pe_int pe_int)) (pv 0) (pe_op op_pow pe_int pe_int))))))), ?_⟩
    cases hv with
    | non => exact ⟨_, rfl, isi_u (.base .non) (by decide +kernel) ⟨false, rfl, iteF k⟩⟩
    | bl b => exact ⟨_, rfl, isi_u (.base (.bl b)) (by decide +kernel) ⟨true, rfl, iteT ⟨_, rfl, isi_u (.base (.bl b)) (by decide +kernel) ⟨true, rfl, false, rfl, iteF k⟩⟩⟩⟩
    | int i =>
      refine ⟨_, rfl, isi_u (.base (.int i)) (by decide +kernel) ⟨true, rfl, iteT ⟨_, rfl, isi_u (.base (.int i)) (by decide +kernel) ⟨false, rfl, true, rfl, iteT ?_⟩⟩⟩⟩
      refine ⟨_, _, rfl, rfl, ⟨by decide, by decide, by decide⟩, _, rfl, _, rfl, _, _, rfl, rfl, _, rfl, ?_⟩
      have e : wholeB (.int i) = (decide (-(10 : Int) ^ (18 : Int).toNat < i) && decide (i < (10 : Int) ^ (18 : Int).toNat)) := rfl
      rw [e] at k
      refine ite2 (fun h1 => ?_) (fun h1 => ?_)
      · rw [h1, Bool.true_and] at k
        exact ⟨_, _, rfl, rfl, ⟨by decide, by decide, by decide⟩, _, _, rfl, rfl, k⟩
      · rw [eq_false_of_ne_true h1, Bool.false_and] at k
        exact k
    | str x => exact ⟨_, rfl, isi_u (.base (.str x)) (by decide +kernel) ⟨false, rfl, iteF k⟩⟩
    | tup hT r => exact ⟨_, rfl, isi_u (sqT_tyx hT) (by decide +kernel) ⟨false, rfl, iteF k⟩⟩
theorem sc_is_number : FnScope ["value", "least", "most"] ["value", "least", "most"] (defScope s_is_number) := ⟨rfl, rfl, rfl, by decide +kernel, rfl, by decide +kernel, by decide +kernel⟩
theorem ok_number {f : Addr} {fd : FuncData} (F : Fun K "is_number" "is_number" s_is_number f fd) (Dis_whole : Df P w K mg base "is_whole" 1 ["value"] (spWhole K)) : FnOk P w K mg base CX0 2 f fd ["value", "least", "most"] (spNumber K) := by
  refine F.ok sc_is_number (fun vs H Q E h => ?_) (fun cdv A outer s H vs Q E hr h => ?_)
  · obtain ⟨v, d, lo, hi, rfl, _⟩ := h; rfl
  · obtain ⟨v, d, lo, hi, rfl, hv, k⟩ := h
    have nd := sc_is_number.nd
    refine ⟨_, (pss_one (ps_ret (pe_and (pe_df Dis_whole hr (by omega) (pa_cons (pv 0) pa_nil)) (pe_one (pe_chain op_le op_le (pv 1) (pv 0) (pv 2)))))), ?_⟩
    refine ⟨_, rfl, v, d, rfl, hv, _, rfl, ?_⟩
    unfold numberB at k
    refine ite2 (fun h1 => ?_) (fun h1 => ?_)
    · rw [h1, Bool.true_and] at k
      cases hv with
      | int i =>
        refine ⟨_, rfl, _, rfl, _, _, rfl, rfl, _, rfl, ?_⟩
        dsimp only at k
        refine ite2 (fun h2 => ?_) (fun h2 => ?_)
        · rw [h2, Bool.true_and] at k
          exact ⟨_, rfl, _, _, rfl, rfl, k⟩
        · rw [eq_false_of_ne_true h2, Bool.false_and] at k
          exact k
      | _ => cases h1
    · rw [eq_false_of_ne_true h1, Bool.false_and] at k
      exact k
theorem sc_is_mark : FnScope ["value"] ["value"] (defScope s_is_mark) := ⟨rfl, rfl, rfl, by decide +kernel, rfl, by decide +kernel, by decide +kernel⟩
theorem ok_mark {f a_MARKS : Addr} {fd : FuncData} (F : Fun K "is_mark" "is_mark" s_is_mark f fd) (n_isinstance : mg "isinstance" = none) (n_str : mg "str" = none) (g_MARKS : mg "MARKS" = some (.ref a_MARKS)) (q_MARKS : KTup K a_MARKS markL) : FnOk P w K mg base CX0 1 f fd ["value"] (spMark K) := by
  refine F.ok sc_is_mark (fun vs H Q E h => ?_) (fun cdv A outer s H vs Q E hr h => ?_)
  · obtain ⟨v, d, rfl, _⟩ := h; rfl
  · obtain ⟨v, d, rfl, hv, k⟩ := h
    have nd := sc_is_mark.nd
    refine ⟨_, (pss_one (ps_ret (pe_and (pe_callB call_isU (by rfl) n_isinstance (by decide +kernel) (pa_cons (pv 0) (pa_cons (pe_bltn (v := .ty "str") rfl n_str (by decide +kernel) rfl) pa_nil))) (pe_one (pe_cmpR uIn (pv 0) (pe_glob (v := .ref _) rfl g_MARKS rfl) (by rfl)))))), ?_⟩
    cases hv with
    | non => exact ⟨_, rfl, isi_u (.base .non) (by decide +kernel) ⟨false, rfl, iteF k⟩⟩
    | bl b => exact ⟨_, rfl, isi_u (.base (.bl b)) (by decide +kernel) ⟨false, rfl, iteF k⟩⟩
    | int i => exact ⟨_, rfl, isi_u (.base (.int i)) (by decide +kernel) ⟨false, rfl, iteF k⟩⟩
    | str x =>
      refine ⟨_, rfl, isi_u (.base (.str x)) (by decide +kernel) ⟨true, rfl, iteT ⟨_, rfl, in_t (q_MARKS _) rfl (flat_strs _) (by rw [Bool.false_xor, inV_str]; rfl) k⟩⟩⟩
    | tup hT r => exact ⟨_, rfl, isi_u (sqT_tyx hT) (by decide +kernel) ⟨false, rfl, iteF k⟩⟩
end
/-! ### is_word -/
/-- a sign in a text -/
theorem in_sg {K : PySem.W.Frag} {neg : Bool} {c : Nat} {z : Str} {H : Hp} {Q : VK} {b : Bool} (hb : xor neg (decide (c ∈ cl z)) = b) (q : Q (.bl b) H) : rInU K neg (.str ⟨#[c]⟩) (.str z) H Q :=
  ⟨.inr ⟨_, _, rfl, rfl, by rw [PySem.StrLaws.found_one, hb]; exact q⟩⟩
theorem ix_s {K : PySem.W.Frag} {z : Str} {i c : Nat} {H : Hp} {Q : VK} (hz : z.length ≤ 100000) (h : (cl z)[i]? = some c) (q : Q (.str ⟨#[c]⟩) H) : rIx K (.str z) (.int (i : Int)) H Q :=
  .inr (.inr ⟨z, _, c, rfl, rfl, by rw [sizeLine_eq]; omega, atI_nat h, q⟩)
theorem str_ne {z : Str} {c : Nat} {cs : List Nat} (e : cl z = c :: cs) : ¬ z = "" := fun q => by
  rw [q] at e
  have : cl ("" : Str) = [] := by decide +kernel
  rw [this] at e; cases e
theorem str_nil {z : Str} (e : cl z = []) : z = "" := str_ext (by rw [e]; decide +kernel)
theorem eq_str {K : PySem.W.Frag} {neg : Bool} {x y : Str} {H : Hp} {Q : VK} {b : Bool} (hb : xor neg (decide (x = y)) = b) (q : Q (.bl b) H) : rEqU K neg (.str x) (.str y) H Q :=
  eq_f rfl (by rw [← hb]; congr 1; rw [Bool.eq_iff_iff]; simp) q
theorem lenS {K : PySem.W.Frag} {z : Str} {H : Hp} (hz : z.length ≤ 100000) : LenV K (.str z) H z.length := ⟨by rw [sizeLine_eq]; omega, rfl⟩
section
variable {P : Program} {w : World} {K : PySem.W.Frag} {mg : Str → Option Value} {base : Heap}
theorem sc_is_word : FnScope ["value", "sign"] ["value"] (defScope s_is_word) := ⟨rfl, rfl, rfl, by decide +kernel, rfl, by decide +kernel, by decide +kernel⟩
theorem sameL {H H' : Hp} {D : Addr} {o : HO} (e : Same H H') (n : H D = none) : Same H (upd H' D o) := fun b u q => by rw [upd_ne (ne_of_none q n)]; exact e b u q
theorem ok_word {f a_KEPT : Addr} {fd : FuncData} {t1 t2 t3 t4 : Tok} (F : Fun K "is_word" "is_word" s_is_word f fd) (n_isinstance : mg "isinstance" = none) (n_str : mg "str" = none) (n_len : mg "len" = none) (n_all : mg "all" = none) (g_KEPT : mg "KEPT" = some (.ref a_KEPT)) (q_KEPT : KTup K a_KEPT keptL)
    (g_SMALL : mg "SMALL" = some (.str cs_SMALL t1)) (g_CAPITAL : mg "CAPITAL" = some (.str cs_CAPITAL t2)) (g_DIGITS : mg "DIGITS" = some (.str cs_DIGITS t3)) (g_MOST_LETTERS : mg "MOST_LETTERS" = some (.int ci_MOST_LETTERS t4)) : FnOk P w K mg base CX0 1 f fd ["value"] (spWord K) := by
  refine F.ok sc_is_word (fun vs H Q E h => ?_) (fun cdv A outer s H vs Q E hr h => ?_)
  · obtain ⟨v, d, rfl, _⟩ := h; rfl
  · obtain ⟨v, d, rfl, hv, hz, k⟩ := h
    have nd := sc_is_word.nd
    refine ⟨_, (pss_cons (ps_if (pt_w (PW.pt (pw_or (pt_not (pt_val (pe_callB call_isU (by rfl) n_isinstance (by decide +kernel) (pa_cons (pv 0) (pa_cons (pe_bltn (v := .ty "str") rfl n_str (by decide +kernel) rfl) pa_nil))))) (pw_or (pt_cmpR (uEq hr.units) (pv 0) pe_str (nomark _)) (pw_or (pt_cmpR op_gt (pe_callB uLen (by rfl) n_len (by decide +kernel) (pa_cons (pv 0) pa_nil)) (pe_glob (v := .int ci_MOST_LETTERS) rfl g_MOST_LETTERS ⟨_, rfl⟩) (nomark _)) (pw_or1 (pt_cmpR uIn (pv 0) (pe_glob (v := .ref _) rfl g_KEPT rfl) (by rfl))))))))
        (pss_one (ps_ret pe_bl))
        pss_nil)
      (pss_one (ps_ret (pe_and (pe_cmpR uIn (pe_ix ix_seq (pv 0) pe_int (fun _ _ => rfl)) (pe_op uAdd (pe_glob (v := .str cs_SMALL) rfl g_SMALL ⟨_, rfl⟩) (pe_glob (v := .str cs_CAPITAL) rfl g_CAPITAL ⟨_, rfl⟩)) (by rfl)) (pe_one (pe_callB (cr_all rfl) (by rfl) n_all (by decide +kernel) (pa_cons (pe_lc (own := [("sign", 1)]) (g := gName 1) rfl nd (pi_str (pv 0)) (blkOk_by (own := [("sign", 1)]) (N := ["value", "sign"]) (sc := defScope s_is_word) (by decide +kernel)) (fun _ _ _ _ _ => (pg_name (i := 1) nd rfl (Or.inl rfl))) (fun _ _ _ _ _ => pts_nil) (fun _ _ _ _ _ => (pe_cmpR (uInK (K := K) rfl) (pv 1) (pe_op (uAddK (K := K) rfl) (pe_op (uAddK (K := K) rfl) (pe_op (uAddK (K := K) rfl) (pe_glob (v := .str cs_SMALL) rfl g_SMALL ⟨_, rfl⟩) (pe_glob (v := .str cs_CAPITAL) rfl g_CAPITAL ⟨_, rfl⟩)) (pe_glob (v := .str cs_DIGITS) rfl g_DIGITS ⟨_, rfl⟩)) pe_str) (by rfl)))) pa_nil))))))), ?_⟩
    have no : ∀ {v : V} {n : String}, TyX K H v (.type n) → L2.kitB n "str" = some false → ∀ (Q' : Bool → Hp → Prop), Q' true H → rIsU K [v, .ty "str"] H (fun x H1 => ∃ c, x = .bl c ∧ Q' (!c) H1) := fun ty e Q' q => isi_u ty e ⟨false, rfl, q⟩
    cases hv with
    | non => exact w_val true (.or (a := true) (b := false) (fun Q' q => ⟨_, rfl, no (.base .non) (by decide +kernel) Q' q⟩) (fun z => nomatch z)) (iteT (k _ (Same.refl _)))
    | bl b => exact w_val true (.or (a := true) (b := false) (fun Q' q => ⟨_, rfl, no (.base (.bl b)) (by decide +kernel) Q' q⟩) (fun z => nomatch z)) (iteT (k _ (Same.refl _)))
    | int i => exact w_val true (.or (a := true) (b := false) (fun Q' q => ⟨_, rfl, no (.base (.int i)) (by decide +kernel) Q' q⟩) (fun z => nomatch z)) (iteT (k _ (Same.refl _)))
    | tup hT r => exact w_val true (.or (a := true) (b := false) (fun Q' q => ⟨_, rfl, no (sqT_tyx hT) (by decide +kernel) Q' q⟩) (fun z => nomatch z)) (iteT (k _ (Same.refl _)))
    | str z =>
      have hz := hz z rfl
      have hk : wordB (.str z) = isWord z := rfl
      rw [hk] at k
      cases e : cl z with
      | nil =>
        have hn := str_nil e
        have hw : isWord z = false := by unfold isWord; rw [e]
        rw [hw] at k
        refine w_val true (.or (a := false) (b := true) (fun Q' q => ⟨_, rfl, isi_u (.base (.str z)) (by decide +kernel) ⟨true, rfl, q⟩⟩) fun _ => .or (a := true) (b := false) (fun Q' q => ⟨_, rfl, eq_str (by rw [hn]; rfl) ⟨_, rfl, q⟩⟩) (fun z => nomatch z)) (iteT (k _ (Same.refl _)))
      | cons c cs =>
        have hn := str_ne e
        have hl : z.length = (c :: cs).length := by rw [← e, cl_len]
        refine w_val (decide (16 < (z.length : Int)) || inV (.str z) (keptL.map V.str)) (.or (a := false) (b := decide (16 < (z.length : Int)) || inV (.str z) (keptL.map V.str)) (fun Q' q => ⟨_, rfl, isi_u (.base (.str z)) (by decide +kernel) ⟨true, rfl, q⟩⟩) fun _ => .or (a := false) (b := decide (16 < (z.length : Int)) || inV (.str z) (keptL.map V.str)) (fun Q' q => ⟨_, rfl, eq_str (by rw [decide_eq_false hn]; rfl) ⟨_, rfl, q⟩⟩)
          fun _ => .or (a := decide (16 < (z.length : Int))) (b := inV (.str z) (keptL.map V.str)) (fun Q' q => ⟨_, rfl, _, _, rfl, lenS hz, _, _, rfl, rfl, _, rfl, q⟩) fun _ Q' q => ⟨_, rfl, in_t (q_KEPT _) rfl (flat_strs _) (Bool.false_xor _) ⟨_, rfl, q⟩⟩) ?_
        refine ite2 (fun h1 => ?_) (fun h1 => ?_)
        · have hw : isWord z = false := by
            unfold isWord; rw [e]
            rw [hl] at h1
            dsimp only
            rcases Bool.or_eq_true_iff.mp h1 with h1 | h1
            · have : ¬ (c :: cs).length ≤ 16 := by have := of_decide_eq_true h1; omega
              rw [decide_eq_false this]; rfl
            · rw [h1]; simp
          rw [hw] at k
          exact k _ (Same.refl _)
        · obtain ⟨h1, h2⟩ := Bool.or_eq_false_iff.mp (eq_false_of_ne_true h1)
          have h1' : decide ((c :: cs).length ≤ 16) = true := decide_eq_true (by rw [hl] at h1; have := of_decide_eq_false h1; omega)
          have hw : isWord z = (decide (c ∈ cl alphaS) && (c :: cs).all fun d => decide (d ∈ cl allS)) := by
            unfold isWord; rw [e]; dsimp only; rw [h1', h2]; rfl
          rw [hw] at k
          refine ⟨_, rfl, ix_s (i := 0) hz (by rw [e]; rfl) ?_⟩
          refine add_s (line_of (by decide +kernel)) ?_
          rw [alphaS_eq]
          refine in_sg (Bool.false_xor _) ⟨_, rfl, ite2 (fun h3 => ?_) (fun h3 => ?_)⟩
          · rw [h3, Bool.true_and] at k
            refine ⟨_, rfl, z, rfl, fun D nD => lc_it walk_str (fun i H1 => Same H H1 ∧ H1 D = some (.lst ((((cl z).take i).map fun d => decide (d ∈ cl allS)).map V.bl))) ⟨same_new nD, upd_same⟩ (fun _ _ _ _ => trivial) ?_ ?_⟩
            · rintro i x H1 H2 hi ⟨q1, q2⟩ ⟨rfl, d, hd, rfl⟩
              refine ⟨rfl, _, rfl, add_s (line_of (by decide +kernel)) (add_s (line_of (by decide +kernel)) (add_s (line_of (by decide +kernel)) ?_))⟩
              rw [allS_eq]
              have hd' : (cl z)[i]? = some d := by simpa using hd
              refine in_sg (Bool.false_xor _) ⟨_, q2, ?_, sameL q1 nD, ?_⟩
              · rw [List.length_map, List.length_map, List.length_take, cl_len]
                rw [sizeLine_eq]; omega
              · rw [upd_same, List.take_succ, hd']
                simp
            · rintro H1 ⟨q1, q2⟩
              refine ⟨D, _, rfl, SqL.of q2, ?_⟩
              have e2 : ((((cl z).take z.cps.size).map fun d => decide (d ∈ cl allS)).all id) = ((c :: cs).all fun d => decide (d ∈ cl allS)) := by
                rw [List.take_of_length_le (by simp), e, List.all_map]; rfl
              rw [e2]
              exact k _ q1
          · rw [eq_false_of_ne_true h3, Bool.false_and] at k
            exact k _ (Same.refl _)
end
end RS

/-! Node4: is_node. -/
namespace RS
open PySem PySem.Spec PyProof.Rows L2 TL

def nodeW (w : Str) (r : List PyData) : Bool :=
  if w ∈ (["pi", "fun"] : List Str) then decide (r.length + 1 = 4) && markB (r.getD 0 .none)
  else if w = "let" then decide (r.length + 1 = 4)
  else if w = "app" then decide (r.length + 1 = 4) && markB (r.getD 1 .none)
  else if w = "sort" then decide (r.length + 1 = 2) && numberB 0 3 (r.getD 0 .none)
  else if w ∈ (["bound", "local", "hole"] : List Str) then decide (r.length + 1 = 2) && numberB 0 1000000 (r.getD 0 .none)
  else if w = "name" then decide (r.length + 1 = 2) && wordB (r.getD 0 .none)
  else decide (w = "count") && (decide (r.length + 1 = 3) && (wordB (r.getD 0 .none) && numberB 0 999999999999999999 (r.getD 1 .none)))
def nodeB : PyData → Bool
  | .tuple (.str w :: r) => nodeW w r
  | _ => false
/-- its texts are not too long -/
def shortD (d : PyData) : Prop := ∀ ds, d = .tuple ds → ∀ z, .str z ∈ ds → z.length ≤ 100000
structure rNode (K : PySem.W.Frag) (vs : List V) (H : Hp) (Q : VK) : Prop where
  ex : (∃ v d, vs = [v] ∧ Dt K H v d ∧ shortD d ∧ ∀ H', Same H H' → Q (.bl (nodeB d)) H') ∨ ∃ v t, vs = [v] ∧ TyX K H v (.type t) ∧ L2.kitB t "tuple" = some false ∧ Q (.bl false) H
def spNode (K : PySem.W.Frag) : Sp := fun vs H Q _ => rNode K vs H Q
theorem eq_i {K : PySem.W.Frag} {neg : Bool} {i j : Int} {H : Hp} {Q : VK} {b : Bool} (hb : xor neg (decide (i = j)) = b) (q : Q (.bl b) H) : rEqU K neg (.int i) (.int j) H Q :=
  eq_f rfl (by rw [← hb]; congr 1; rw [Bool.eq_iff_iff]; simp) q
theorem DtAll.elt {K : PySem.W.Frag} {H : Hp} {vs : List V} {ds : List PyData} (h : DtAll K H vs ds) {i : Nat} (hi : i < ds.length) : ∃ v, vs[i]? = some v ∧ Dt K H v (ds.getD i .none) := by
  have e : ds[i]? = some (ds.getD i .none) := by rw [List.getElem?_eq_getElem hi, List.getD_eq_getElem?_getD, List.getElem?_eq_getElem hi]; rfl
  exact h.get' e
theorem mem_getD {ds : List PyData} {i : Nat} {z : Str} (e : ds.getD i .none = .str z) : .str z ∈ ds := by
  by_cases hi : i < ds.length
  · rw [List.getD_eq_getElem?_getD, List.getElem?_eq_getElem hi] at e
    rw [← show ds[i] = .str z from e]
    exact List.getElem_mem hi
  · rw [List.getD_eq_getElem?_getD, List.getElem?_eq_none (by omega)] at e; cases e
theorem dec_int {n m : Nat} {j : Int} (h : j = m) : decide ((n : Int) = j) = decide (n = m) := by rw [Bool.eq_iff_iff]; simp [h]; omega
section
variable {P : Program} {w : World} {K : PySem.W.Frag} {mg : Str → Option Value} {base : Heap}
theorem sc_is_node : FnScope ["value", "word", "many"] ["value"] (defScope s_is_node) := ⟨rfl, rfl, rfl, by decide +kernel, rfl, by decide +kernel, by decide +kernel⟩
theorem ok_node {f : Addr} {fd : FuncData} {t1 t2 t3 : Tok} (F : Fun K "is_node" "is_node" s_is_node f fd) (n_isinstance : mg "isinstance" = none) (n_str : mg "str" = none) (n_tuple : mg "tuple" = none) (n_len : mg "len" = none)
    (g_LEVELS : mg "LEVELS" = some (.int ci_LEVELS t1)) (g_MOST_COUNT : mg "MOST_COUNT" = some (.int ci_MOST_COUNT t2)) (g_MOST_NUMBER : mg "MOST_NUMBER" = some (.int ci_MOST_NUMBER t3))
    (Dis_mark : Df P w K mg base "is_mark" 1 ["value"] (spMark K)) (Dis_number : Df P w K mg base "is_number" 2 ["value", "least", "most"] (spNumber K)) (Dis_word : Df P w K mg base "is_word" 1 ["value"] (spWord K)) : FnOk P w K mg base CX0 3 f fd ["value"] (spNode K) := by
  refine F.ok sc_is_node (fun vs H Q E h => ?_) (fun cdv A outer s H vs Q E hr h => ?_)
  · rcases h.ex with ⟨v, d, rfl, _⟩ | ⟨v, t, rfl, _⟩ <;> rfl
  · have nd := sc_is_node.nd
    refine ⟨_, (pss_cons (ps_if (pt_w (PW.pt (pw_or (pt_not (pt_val (pe_callB call_isU (by rfl) n_isinstance (by decide +kernel) (pa_cons (pv 0) (pa_cons (pe_bltn (v := .ty "tuple") rfl n_tuple (by decide +kernel) rfl) pa_nil))))) (pw_or (pt_cmpR (op_eqT0 hr.units) (pv 0) (pe_tupN pa_nil) (nomark _)) (pw_or1 (pt_not (pt_val (pe_callB call_isU (by rfl) n_isinstance (by decide +kernel) (pa_cons (pe_ix ix_seq (pv 0) pe_int (fun _ _ => rfl)) (pa_cons (pe_bltn (v := .ty "str") rfl n_str (by decide +kernel) rfl) pa_nil))))))))))
        (pss_one (ps_ret pe_bl))
        pss_nil)
      (pss_cons (ps_par (i := 1) (j := 2) rfl nd rfl rfl (by decide) rfl rfl (pa_cons (pe_ix ix_seq (pv 0) pe_int (fun _ _ => rfl)) (pa_cons (pe_callB uLen (by rfl) n_len (by decide +kernel) (pa_cons (pv 0) pa_nil)) pa_nil)) rfl)
      (pss_cons (ps_if (pt_cmpR uIn (pv 1) (pe_tupN (pa_cons pe_str (pa_cons pe_str pa_nil))) (by rfl))
        (pss_one (ps_ret (pe_and (pe_cmpR (uEq hr.units) (pv 2) pe_int (nomark _)) (pe_one (pe_df Dis_mark hr (by omega) (pa_cons (pe_ix ix_seq (pv 0) pe_int (fun _ _ => rfl)) pa_nil))))))
        pss_nil)
      (pss_cons (ps_if (pt_cmpR (uEq hr.units) (pv 1) pe_str (nomark _))
        (pss_one (ps_ret (pe_cmpR (uEq hr.units) (pv 2) pe_int (nomark _))))
        pss_nil)
      (pss_cons (ps_if (pt_cmpR (uEq hr.units) (pv 1) pe_str (nomark _))
        (pss_one (ps_ret (pe_and (pe_cmpR (uEq hr.units) (pv 2) pe_int (nomark _)) (pe_one (pe_df Dis_mark hr (by omega) (pa_cons (pe_ix ix_seq (pv 0) pe_int (fun _ _ => rfl)) pa_nil))))))
        pss_nil)
      (pss_cons (ps_if (pt_cmpR (uEq hr.units) (pv 1) pe_str (nomark _))
        (pss_one (ps_ret (pe_and (pe_cmpR (uEq hr.units) (pv 2) pe_int (nomark _)) (pe_one (pe_df Dis_number hr (by omega) (pa_cons (pe_ix ix_seq (pv 0) pe_int (fun _ _ => rfl)) (pa_cons pe_int (pa_cons (pe_op op_sub (pe_glob (v := .int ci_LEVELS) rfl g_LEVELS ⟨_, rfl⟩) pe_int) pa_nil))))))))
        pss_nil)
      (pss_cons (ps_if (pt_cmpR uIn (pv 1) (pe_tupN (pa_cons pe_str (pa_cons pe_str (pa_cons pe_str pa_nil)))) (by rfl))
        (pss_one (ps_ret (pe_and (pe_cmpR (uEq hr.units) (pv 2) pe_int (nomark _)) (pe_one (pe_df Dis_number hr (by omega) (pa_cons (pe_ix ix_seq (pv 0) pe_int (fun _ _ => rfl)) (pa_cons pe_int (pa_cons (pe_glob (v := .int ci_MOST_COUNT) rfl g_MOST_COUNT ⟨_, rfl⟩) pa_nil))))))))
        pss_nil)
      (pss_cons (ps_if (pt_cmpR (uEq hr.units) (pv 1) pe_str (nomark _))
        (pss_one (ps_ret (pe_and (pe_cmpR (uEq hr.units) (pv 2) pe_int (nomark _)) (pe_one (pe_df Dis_word hr (by omega) (pa_cons (pe_ix ix_seq (pv 0) pe_int (fun _ _ => rfl)) pa_nil))))))
        pss_nil)
      (pss_one (ps_ret (pe_and (pe_cmpR (uEq hr.units) (pv 1) pe_str (nomark _)) (pe_and (pe_cmpR (uEq hr.units) (pv 2) pe_int (nomark _)) (pe_and (pe_df Dis_word hr (by omega) (pa_cons (pe_ix ix_seq (pv 0) pe_int (fun _ _ => rfl)) pa_nil)) (pe_one (pe_df Dis_number hr (by omega) (pa_cons (pe_ix ix_seq (pv 0) pe_int (fun _ _ => rfl)) (pa_cons pe_int (pa_cons (pe_glob (v := .int ci_MOST_NUMBER) rfl g_MOST_NUMBER ⟨_, rfl⟩) pa_nil)))))))))))))))))), ?_⟩
    rcases h.ex with ⟨v, d, rfl, hv, hsh, k⟩ | ⟨v, t, rfl, ty, e, k⟩
    rotate_left
    · exact w_val true (.or (a := true) (b := false) (fun Q' q => ⟨_, rfl, isi_u ty e ⟨false, rfl, q⟩⟩) (fun z => nomatch z)) (iteT k)
    cases hv with
    | non => exact w_val true (.or (a := true) (b := false) (fun Q' q => ⟨_, rfl, isi_u (.base .non) (by decide +kernel) ⟨false, rfl, q⟩⟩) (fun z => nomatch z)) (iteT (k _ (Same.refl _)))
    | bl b => exact w_val true (.or (a := true) (b := false) (fun Q' q => ⟨_, rfl, isi_u (.base (.bl b)) (by decide +kernel) ⟨false, rfl, q⟩⟩) (fun z => nomatch z)) (iteT (k _ (Same.refl _)))
    | int i => exact w_val true (.or (a := true) (b := false) (fun Q' q => ⟨_, rfl, isi_u (.base (.int i)) (by decide +kernel) ⟨false, rfl, q⟩⟩) (fun z => nomatch z)) (iteT (k _ (Same.refl _)))
    | str x => exact w_val true (.or (a := true) (b := false) (fun Q' q => ⟨_, rfl, isi_u (.base (.str x)) (by decide +kernel) ⟨false, rfl, q⟩⟩) (fun z => nomatch z)) (iteT (k _ (Same.refl _)))
    | @tup a xs ds hT hA =>
      refine ⟨⟨_, rfl, isi_u (sqT_tyx hT) (by decide +kernel) ⟨true, rfl, iteF ⟨_, rfl, tup_at (Nat.zero_le _) fun p np => ⟨a, p, xs, rfl, rfl, TK.new np _ _ hT, SqT.of upd_same, _, rfl, ?_⟩⟩⟩⟩⟩
      have e0 : Same H (upd H p (.tup [])) := same_new np
      generalize upd H p (.tup []) = H1 at e0 ⊢
      have hT := sqs hT e0
      have hA := DtAll.keep (TK.same (K := K) e0) _ hA
      cases hA with
      | nil => exact iteT (iteT (k _ e0))
      | @cons v0 vr d0 r h0 hR =>
        refine iteF ⟨_, rfl, ixt (i := 0) hT rfl ?_⟩
        cases h0 with
        | non => exact isi_u (.base .non) (by decide +kernel) ⟨false, rfl, iteT (k _ e0)⟩
        | bl b => exact isi_u (.base (.bl b)) (by decide +kernel) ⟨false, rfl, iteT (k _ e0)⟩
        | int i => exact isi_u (.base (.int i)) (by decide +kernel) ⟨false, rfl, iteT (k _ e0)⟩
        | tup h1 h2 => exact isi_u (sqT_tyx h1) (by decide +kernel) ⟨false, rfl, iteT (k _ e0)⟩
        | str wd =>
          refine isi_u (.base (.str wd)) (by decide +kernel) ⟨true, rfl, iteF ?_⟩
          refine ⟨_, rfl, ixt (i := 0) hT rfl ⟨_, rfl, _, _, rfl, .inr ⟨_, hT, rfl⟩, _, _, rfl, ?_⟩⟩
          have hlen : vr.length = r.length := hR.length
          have hm : ∀ (m : Nat) (j : Int), j = m → xor false (decide ((((V.str wd :: vr).length : Nat) : Int) = j)) = decide (r.length + 1 = m) := fun m j h => by rw [Bool.false_xor, dec_int h, List.length_cons, hlen]
          have hk : nodeB (.tuple (.str wd :: r)) = nodeW wd r := rfl
          rw [hk] at k
          unfold nodeW at k
          have hsw : ∀ i z, r.getD i .none = .str z → z.length ≤ 100000 := fun i z e => hsh _ rfl z (List.mem_cons_of_mem _ (mem_getD e))
          -- pi, fun
          refine ⟨_, rfl, tup_at (by show 2 ≤ 1000; decide) fun p2 np2 => in_t (SqT.of upd_same) rfl rfl (b := decide (wd ∈ (["pi", "fun"] : List Str))) ((Bool.false_xor _).trans (inV_str wd ["pi", "fun"])) ⟨_, rfl, ?_⟩⟩
          have e2 := e0.trans (same_new (o := .tup [.str "pi", .str "fun"]) np2)
          have hT := sqs hT (same_new (o := .tup [.str "pi", .str "fun"]) np2)
          have hR := DtAll.keep (TK.same (K := K) (same_new (o := .tup [.str "pi", .str "fun"]) np2)) _ hR
          generalize upd H1 p2 (.tup [.str "pi", .str "fun"]) = H2 at e2 hT hR ⊢
          refine ite2 (fun q1 => ?_) (fun q1 => ?_)
          · rw [if_pos (of_decide_eq_true q1)] at k
            refine ⟨_, rfl, eq_i (hm 4 4 rfl) ⟨_, rfl, ite2 (fun q => ?_) (fun q => ?_)⟩⟩
            · rw [q, Bool.true_and] at k
              obtain ⟨v1, g1, g2⟩ := hR.elt (i := 0) (by have := of_decide_eq_true q; omega)
              exact ⟨_, rfl, ixt (i := 1) hT g1 ⟨v1, _, rfl, g2, k _ e2⟩⟩
            · rw [eq_false_of_ne_true q, Bool.false_and] at k
              exact k _ e2
          rw [if_neg (fun z => q1 (decide_eq_true z))] at k
          -- let
          refine ⟨_, rfl, eq_str (Bool.false_xor _) ⟨_, rfl, ite2 (fun q2 => ?_) (fun q2 => ?_)⟩⟩
          · rw [if_pos (of_decide_eq_true q2)] at k
            exact ⟨_, rfl, eq_i (hm 4 4 rfl) (k _ e2)⟩
          rw [if_neg (fun z => q2 (decide_eq_true z))] at k
          -- app
          refine ⟨_, rfl, eq_str (Bool.false_xor _) ⟨_, rfl, ite2 (fun q3 => ?_) (fun q3 => ?_)⟩⟩
          · rw [if_pos (of_decide_eq_true q3)] at k
            refine ⟨_, rfl, eq_i (hm 4 4 rfl) ⟨_, rfl, ite2 (fun q => ?_) (fun q => ?_)⟩⟩
            · rw [q, Bool.true_and] at k
              obtain ⟨v1, g1, g2⟩ := hR.elt (i := 1) (by have := of_decide_eq_true q; omega)
              exact ⟨_, rfl, ixt (i := 2) hT g1 ⟨v1, _, rfl, g2, k _ e2⟩⟩
            · rw [eq_false_of_ne_true q, Bool.false_and] at k
              exact k _ e2
          rw [if_neg (fun z => q3 (decide_eq_true z))] at k
          -- sort
          refine ⟨_, rfl, eq_str (Bool.false_xor _) ⟨_, rfl, ite2 (fun q4 => ?_) (fun q4 => ?_)⟩⟩
          · rw [if_pos (of_decide_eq_true q4)] at k
            refine ⟨_, rfl, eq_i (hm 2 2 rfl) ⟨_, rfl, ite2 (fun q => ?_) (fun q => ?_)⟩⟩
            · rw [q, Bool.true_and] at k
              obtain ⟨v1, g1, g2⟩ := hR.elt (i := 0) (by have := of_decide_eq_true q; omega)
              exact ⟨_, rfl, ixt (i := 1) hT g1 ⟨_, _, rfl, rfl, v1, _, _, _, rfl, g2, k _ e2⟩⟩
            · rw [eq_false_of_ne_true q, Bool.false_and] at k
              exact k _ e2
          rw [if_neg (fun z => q4 (decide_eq_true z))] at k
          -- bound, local, hole
          refine ⟨_, rfl, tup_at (by show 3 ≤ 1000; decide) fun p3 np3 => in_t (SqT.of upd_same) rfl rfl (b := decide (wd ∈ (["bound", "local", "hole"] : List Str))) ((Bool.false_xor _).trans (inV_str wd ["bound", "local", "hole"])) ⟨_, rfl, ?_⟩⟩
          have e3 := e2.trans (same_new (o := .tup [.str "bound", .str "local", .str "hole"]) np3)
          have hT := sqs hT (same_new (o := .tup [.str "bound", .str "local", .str "hole"]) np3)
          have hR := DtAll.keep (TK.same (K := K) (same_new (o := .tup [.str "bound", .str "local", .str "hole"]) np3)) _ hR
          generalize upd H2 p3 (.tup [.str "bound", .str "local", .str "hole"]) = H3 at e3 hT hR ⊢
          refine ite2 (fun q5 => ?_) (fun q5 => ?_)
          · rw [if_pos (of_decide_eq_true q5)] at k
            refine ⟨_, rfl, eq_i (hm 2 2 rfl) ⟨_, rfl, ite2 (fun q => ?_) (fun q => ?_)⟩⟩
            · rw [q, Bool.true_and] at k
              obtain ⟨v1, g1, g2⟩ := hR.elt (i := 0) (by have := of_decide_eq_true q; omega)
              exact ⟨_, rfl, ixt (i := 1) hT g1 ⟨v1, _, _, _, rfl, g2, k _ e3⟩⟩
            · rw [eq_false_of_ne_true q, Bool.false_and] at k
              exact k _ e3
          rw [if_neg (fun z => q5 (decide_eq_true z))] at k
          -- name
          refine ⟨_, rfl, eq_str (Bool.false_xor _) ⟨_, rfl, ite2 (fun q6 => ?_) (fun q6 => ?_)⟩⟩
          · rw [if_pos (of_decide_eq_true q6)] at k
            refine ⟨_, rfl, eq_i (hm 2 2 rfl) ⟨_, rfl, ite2 (fun q => ?_) (fun q => ?_)⟩⟩
            · rw [q, Bool.true_and] at k
              obtain ⟨v1, g1, g2⟩ := hR.elt (i := 0) (by have := of_decide_eq_true q; omega)
              exact ⟨_, rfl, ixt (i := 1) hT g1 ⟨v1, _, rfl, g2, hsw 0, fun H4 e4 => k _ (e3.trans e4)⟩⟩
            · rw [eq_false_of_ne_true q, Bool.false_and] at k
              exact k _ e3
          rw [if_neg (fun z => q6 (decide_eq_true z))] at k
          -- count
          refine ⟨_, rfl, eq_str (Bool.false_xor _) ⟨_, rfl, ite2 (fun q7 => ?_) (fun q7 => ?_)⟩⟩
          · rw [q7, Bool.true_and] at k
            refine ⟨_, rfl, eq_i (hm 3 3 rfl) ⟨_, rfl, ite2 (fun q => ?_) (fun q => ?_)⟩⟩
            · rw [q, Bool.true_and] at k
              have hq := of_decide_eq_true q
              obtain ⟨v1, g1, g2⟩ := hR.elt (i := 0) (by omega)
              refine ⟨_, rfl, ixt (i := 1) hT g1 ⟨v1, _, rfl, g2, hsw 0, fun H4 e4 => ⟨_, rfl, ?_⟩⟩⟩
              refine ite2 (fun q8 => ?_) (fun q8 => ?_)
              · rw [q8, Bool.true_and] at k
                obtain ⟨v2, g3, g4⟩ := (DtAll.keep (TK.same (K := K) e4) _ hR).elt (i := 1) (by omega)
                exact ⟨_, rfl, ixt (i := 2) (sqs hT e4) g3 ⟨v2, _, _, _, rfl, g4, k _ (e3.trans e4)⟩⟩
              · rw [eq_false_of_ne_true q8, Bool.false_and] at k
                exact k _ (e3.trans e4)
            · rw [eq_false_of_ne_true q, Bool.false_and] at k
              exact k _ e3
          · rw [eq_false_of_ne_true q7, Bool.false_and] at k
            exact k _ e3
end
end RS

/-! Plain4: the words of a term, read and written; the law's own judge of words. -/
namespace RS
open PySem PySem.Spec PyProof.Rows L2 TL

/-- the words of a term's text -/
def cwords : Tm → List Str
  | .bin w m a b => (["(" ++ w, m] : List Str) ++ cwords a ++ cwords b ++ ([")"] : List Str)
  | .letT a b c => (["(let"] : List Str) ++ cwords a ++ cwords b ++ cwords c ++ ([")"] : List Str)
  | .app f m x => (["(app", m] : List Str) ++ cwords f ++ cwords x ++ ([")"] : List Str)
  | t => [leafText t]
def opens : List Str := ["(pi", "(fun", "(let", "(app"]
/-- a term that is being read: its word, its mark, its parts so far -/
structure Hd4 where
  w : Str
  m : Str
  ps : List Tm
def Hd4.need (h : Hd4) : Nat := (if h.w = "let" then 3 else 2) - h.ps.length
def Hd4.push (h : Hd4) (t : Tm) : Hd4 := ⟨h.w, h.m, h.ps ++ [t]⟩
/-- what it is, all parts read -/
def Hd4.done (h : Hd4) : Tm := if h.w = "let" then .letT (h.ps.getD 0 (.name "")) (h.ps.getD 1 (.name "")) (h.ps.getD 2 (.name ""))
  else if h.w = "app" then .app (h.ps.getD 0 (.name "")) h.m (h.ps.getD 1 (.name "")) else .bin h.w h.m (h.ps.getD 0 (.name "")) (h.ps.getD 1 (.name ""))
abbrev Got (α : Type) : Type := Except Nat α
/-- a part is read: what it closes -/
def close : Tm → List Str → Nat → List Hd4 → Got (Tm × Nat ⊕ List Str × Nat × List Hd4)
  | t, _, n, [] => .ok (.inl (t, n))
  | t, ws, n, h :: hs => if 1 < h.need then .ok (.inr (ws, n, h.push t :: hs)) else match ws with
    | c :: ws' => if c = ")" then close (h.push t).done ws' (n + 1) hs else .error n
    | [] => .error n
def run : Nat → List Str → Nat → List Hd4 → Got (Tm × Nat)
  | 0, _, n, _ => .error n
  | _ + 1, [], n, _ => .error n
  | f + 1, w :: ws, n, hs => if w ∈ opens then (if w = "(let" then run f ws (n + 1) (⟨"let", "", []⟩ :: hs) else match ws with
      | [] => .error (n + 1)
      | m :: ws' => if m ∈ markL then run f ws' (n + 2) (⟨cutS w (some (1 : Nat)) none, m, []⟩ :: hs) else .error (n + 1))
    else match readLeaf w with
      | none => .error n
      | some t => match close t ws (n + 1) hs with
        | .error k => .error k
        | .ok (.inl r) => .ok r
        | .ok (.inr (ws', n', hs')) => run f ws' n' hs'
/-- the words of a text read -/
def readT (ws : List Str) : Got Tm := match run (ws.length + 1) ws 0 [] with
  | .error k => .error k
  | .ok (t, n) => if n = ws.length then .ok t else .error n
/-! ### the law's own judge -/
def closeF : List Str → Nat → List Nat → Got (Nat ⊕ List Str × Nat × List Nat)
  | _, n, [] => .ok (.inl n)
  | ws, n, k :: ks => if 1 < k then .ok (.inr (ws, n, (k - 1) :: ks)) else match ws with
    | c :: ws' => if c = ")" then closeF ws' (n + 1) ks else .error n
    | [] => .error n
def runF : Nat → List Str → Nat → List Nat → Got Nat
  | 0, _, n, _ => .error n
  | _ + 1, [], n, _ => .error n
  | f + 1, w :: ws, n, ks => if w ∈ opens then (if w = "(let" then runF f ws (n + 1) (3 :: ks) else match ws with
      | [] => .error (n + 1)
      | m :: ws' => if m ∈ markL then runF f ws' (n + 2) (2 :: ks) else .error (n + 1))
    else if isLeafL w = true then match closeF ws (n + 1) ks with
        | .error k => .error k
        | .ok (.inl r) => .ok r
        | .ok (.inr (ws', n', ks')) => runF f ws' n' ks'
      else .error n
def fault (ws : List Str) : Option Nat := match runF (ws.length + 1) ws 0 [] with
  | .error k => some k
  | .ok n => if n = ws.length then none else some n
/-! ### both go alike -/
theorem need_push {h : Hd4} {t : Tm} : (h.push t).need = h.need - 1 := by
  unfold Hd4.need Hd4.push
  rw [List.length_append, List.length_singleton]
  split <;> omega
theorem close_sim : ∀ (hs : List Hd4) (t : Tm) (ws : List Str) (n : Nat), closeF ws n (hs.map Hd4.need) = match close t ws n hs with
    | .error k => .error k
    | .ok (.inl (_, m)) => .ok (.inl m)
    | .ok (.inr (ws', m, hs')) => .ok (.inr (ws', m, hs'.map Hd4.need))
  | [], t, ws, n => by unfold closeF close; rfl
  | h :: hs, t, ws, n => by
    rw [List.map_cons]
    unfold closeF close
    by_cases hk : 1 < h.need
    · rw [if_pos hk, if_pos hk]
      show _ = Except.ok (Sum.inr (ws, n, (h.push t).need :: hs.map Hd4.need))
      rw [need_push]
    · rw [if_neg hk, if_neg hk]
      cases ws with
      | nil => rfl
      | cons c ws' =>
        dsimp only
        by_cases hc : c = ")"
        · rw [if_pos hc, if_pos hc]
          exact close_sim hs _ ws' (n + 1)
        · rw [if_neg hc, if_neg hc]
theorem open_need {w : Str} (h : w ∈ opens) (hl : ¬ w = "(let") : Hd4.need ⟨cutS w (some (1 : Nat)) none, m, []⟩ = 2 := by
  have : ¬ cutS w (some (1 : Nat)) none = "let" := by
    simp only [opens, List.mem_cons, List.not_mem_nil, or_false] at h
    rcases h with rfl | rfl | rfl | rfl
    · decide +kernel
    · decide +kernel
    · exact absurd rfl hl
    · decide +kernel
  unfold Hd4.need
  dsimp only
  rw [if_neg this]
  rfl
theorem run_sim : ∀ (f : Nat) (ws : List Str) (n : Nat) (hs : List Hd4), runF f ws n (hs.map Hd4.need) = match run f ws n hs with
    | .error k => .error k
    | .ok (_, m) => .ok m
  | 0, _, _, _ => rfl
  | _ + 1, [], _, _ => rfl
  | f + 1, w :: ws, n, hs => by
    unfold runF run
    by_cases ho : w ∈ opens
    · rw [if_pos ho, if_pos ho]
      by_cases hl : w = "(let"
      · rw [if_pos hl, if_pos hl]
        exact run_sim f ws (n + 1) (⟨"let", "", []⟩ :: hs)
      · rw [if_neg hl, if_neg hl]
        cases ws with
        | nil => rfl
        | cons m ws' =>
          dsimp only
          by_cases hm : m ∈ markL
          · rw [if_pos hm, if_pos hm]
            have := run_sim f ws' (n + 2) (⟨cutS w (some (1 : Nat)) none, m, []⟩ :: hs)
            rw [List.map_cons, open_need ho hl] at this
            exact this
          · rw [if_neg hm, if_neg hm]
    · rw [if_neg ho, if_neg ho, leaf_iff]
      cases e : readLeaf w with
      | none => rw [if_neg (by simp)]
      | some t =>
        rw [if_pos (by simp)]
        dsimp only
        rw [close_sim hs t ws (n + 1)]
        cases close t ws (n + 1) hs with
        | error k => rfl
        | ok r =>
          cases r with
          | inl r => obtain ⟨t', m⟩ := r; rfl
          | inr r => obtain ⟨ws', n', hs'⟩ := r; exact run_sim f ws' n' hs'
/-- THE FIRST WORD that cannot stand there -/
theorem fault_eq (ws : List Str) : fault ws = match readT ws with
    | .error k => some k
    | .ok _ => none := by
  unfold fault readT
  have := run_sim (ws.length + 1) ws 0 []
  rw [List.map_nil] at this
  rw [this]
  cases run (ws.length + 1) ws 0 [] with
  | error k => rfl
  | ok r =>
    obtain ⟨t, n⟩ := r
    dsimp only
    by_cases h : n = ws.length
    · rw [if_pos h, if_pos h]
    · rw [if_neg h, if_neg h]
/-! ### what is read has just these words -/
def hdWords (h : Hd4) : List Str := (if h.w = "let" then (["(let"] : List Str) else ["(" ++ h.w, h.m]) ++ h.ps.flatMap cwords
/-- the words of the heads, the outermost first -/
def stWords : List Hd4 → List Str
  | [] => []
  | h :: hs => stWords hs ++ hdWords h
def Hd4.good (h : Hd4) : Prop := ((h.w = "let") ∨ ((h.w = "pi" ∨ h.w = "fun" ∨ h.w = "app") ∧ h.m ∈ markL)) ∧ (∀ p ∈ h.ps, p.wf) ∧ 1 ≤ h.need
theorem marks_eq : markL = marksL := rfl
theorem nle1 : ¬ ("pi" : Str) = "let" := by decide +kernel
theorem nle2 : ¬ ("fun" : Str) = "let" := by decide +kernel
theorem nle3 : ¬ ("app" : Str) = "let" := by decide +kernel
theorem npa : ¬ ("pi" : Str) = "app" := by decide +kernel
theorem nfa : ¬ ("fun" : Str) = "app" := by decide +kernel
theorem done_words {h : Hd4} {t : Tm} (g : h.good) (ht : t.wf) (hk : ¬ 1 < h.need) : (h.push t).done.wf ∧ cwords (h.push t).done = hdWords (h.push t) ++ ([")"] : List Str) := by
  obtain ⟨w, m, ps⟩ := h
  obtain ⟨hw, hp, hn⟩ := g
  dsimp only at hw hp
  have one : Hd4.need ⟨w, m, ps⟩ = 1 := by omega
  unfold Hd4.need at one
  dsimp only at one
  rcases hw with rfl | ⟨hw, hm⟩
  · rw [if_pos rfl] at one
    match ps, (show ps.length = 2 by omega) with
    | [a, b], _ =>
      refine ⟨⟨hp a (by simp), hp b (by simp), ht⟩, ?_⟩
      show cwords (.letT a b t) = _
      simp [cwords, hdWords, Hd4.push]
  · have e2 : ¬ w = "let" := by rcases hw with rfl | rfl | rfl; exact nle1; exact nle2; exact nle3
    rw [if_neg e2] at one
    match ps, (show ps.length = 1 by omega) with
    | [a], _ =>
      rcases hw with rfl | rfl | rfl
      · have e : (Hd4.push ⟨"pi", m, [a]⟩ t).done = .bin "pi" m a t := by unfold Hd4.done Hd4.push; dsimp only; rw [if_neg nle1, if_neg npa]; rfl
        rw [e]
        refine ⟨⟨.inl rfl, hm, hp a (by simp), ht⟩, ?_⟩
        unfold hdWords Hd4.push
        dsimp only
        rw [if_neg nle1]
        simp [cwords]
      · have e : (Hd4.push ⟨"fun", m, [a]⟩ t).done = .bin "fun" m a t := by unfold Hd4.done Hd4.push; dsimp only; rw [if_neg nle2, if_neg nfa]; rfl
        rw [e]
        refine ⟨⟨.inr rfl, hm, hp a (by simp), ht⟩, ?_⟩
        unfold hdWords Hd4.push
        dsimp only
        rw [if_neg nle2]
        simp [cwords]
      · have e : (Hd4.push ⟨"app", m, [a]⟩ t).done = .app a m t := by unfold Hd4.done Hd4.push; dsimp only; rw [if_neg nle3, if_pos rfl]; rfl
        rw [e]
        refine ⟨⟨hp a (by simp), hm, ht⟩, ?_⟩
        unfold hdWords Hd4.push
        dsimp only
        rw [if_neg nle3]
        have : ("(" : Str) ++ "app" = "(app" := by decide +kernel
        simp [cwords, this]
theorem push_words {h : Hd4} {t : Tm} : hdWords (h.push t) = hdWords h ++ cwords t := by
  unfold hdWords Hd4.push
  simp [List.flatMap_append]
/-- what close tells: all words so far -/
theorem close_words : ∀ (hs : List Hd4) (t : Tm) (ws : List Str) (n : Nat), (∀ h ∈ hs, h.good) → t.wf → ∃ used, ws = used ++ (match close t ws n hs with | .ok (.inr (ws', _, _)) => ws' | _ => ws.drop used.length) ∧ (match close t ws n hs with
    | .error _ => True
    | .ok (.inl (t', m)) => t'.wf ∧ m = n + used.length ∧ cwords t' = stWords hs ++ cwords t ++ used
    | .ok (.inr (ws', m, hs')) => (∀ h ∈ hs', h.good) ∧ m = n + used.length ∧ stWords hs' = stWords hs ++ cwords t ++ used)
  | [], t, ws, n, _, ht => ⟨[], by simp [close], by simp [close, ht, stWords]⟩
  | h :: hs, t, ws, n, hg, ht => by
    have g := hg h List.mem_cons_self
    unfold close
    by_cases hk : 1 < h.need
    · rw [if_pos hk]
      refine ⟨[], rfl, fun x hx => ?_, rfl, ?_⟩
      · rcases List.mem_cons.mp hx with rfl | hx
        · obtain ⟨g1, g2, g3⟩ := g
          refine ⟨g1, fun p hp => ?_, by rw [need_push]; omega⟩
          rcases List.mem_append.mp hp with hp | hp
          · exact g2 p hp
          · rw [List.mem_singleton.mp hp]; exact ht
        · exact hg x (List.mem_cons_of_mem _ hx)
      · rw [stWords, stWords, push_words]; simp
    · rw [if_neg hk]
      cases ws with
      | nil => exact ⟨[], rfl, trivial⟩
      | cons c ws' =>
        dsimp only
        by_cases hc : c = ")"
        · rw [if_pos hc]
          obtain ⟨d1, d2⟩ := done_words g ht hk
          obtain ⟨used, e1, e2⟩ := close_words hs (h.push t).done ws' (n + 1) (fun x hx => hg x (List.mem_cons_of_mem _ hx)) d1
          refine ⟨c :: used, ?_, ?_⟩
          · cases e : close (h.push t).done ws' (n + 1) hs with
            | error k => rw [e] at e1; simpa using e1
            | ok r =>
              cases r with
              | inl r => rw [e] at e1; simpa using e1
              | inr r => rw [e] at e1; dsimp only at e1 ⊢; rw [List.cons_append, ← e1]
          · cases e : close (h.push t).done ws' (n + 1) hs with
            | error k => trivial
            | ok r =>
              cases r with
              | inl r =>
                rw [e] at e2
                obtain ⟨q1, q2, q3⟩ := e2
                refine ⟨q1, by rw [q2, List.length_cons]; omega, ?_⟩
                rw [q3, d2, push_words, stWords, hc]; simp
              | inr r =>
                rw [e] at e2
                obtain ⟨q1, q2, q3⟩ := e2
                refine ⟨q1, by rw [q2, List.length_cons]; omega, ?_⟩
                rw [q3, d2, push_words, stWords, hc]; simp
        · rw [if_neg hc]
          exact ⟨[], rfl, trivial⟩
theorem leaf_words {t : Tm} (h : t.isLeaf = true) : cwords t = [leafText t] := by cases t <;> first | rfl | cases h
theorem run_words : ∀ (f : Nat) (ws : List Str) (n : Nat) (hs : List Hd4) (t : Tm) (m : Nat), (∀ h ∈ hs, h.good) → run f ws n hs = .ok (t, m) → t.wf ∧ ∃ used rest, ws = used ++ rest ∧ m = n + used.length ∧ cwords t = stWords hs ++ used
  | 0, _, _, _, _, _, _, e => by unfold run at e; cases e
  | _ + 1, [], _, _, _, _, _, e => by unfold run at e; cases e
  | f + 1, w :: ws, n, hs, t, m, hg, e => by
    unfold run at e
    by_cases ho : w ∈ opens
    · rw [if_pos ho] at e
      by_cases hl : w = "(let"
      · rw [if_pos hl] at e
        obtain ⟨q1, used, rest, q2, q3, q4⟩ := run_words f ws (n + 1) _ t m (fun x hx => by
          rcases List.mem_cons.mp hx with rfl | hx
          · exact ⟨.inl rfl, (fun _ z => nomatch z), by decide +kernel⟩
          · exact hg x hx) e
        refine ⟨q1, w :: used, rest, by rw [q2]; rfl, by rw [q3, List.length_cons]; omega, ?_⟩
        rw [q4, stWords]
        unfold hdWords
        dsimp only
        rw [if_pos rfl, hl]; simp
      · rw [if_neg hl] at e
        cases ws with
        | nil => cases e
        | cons mk ws' =>
          dsimp only at e
          by_cases hm : mk ∈ markL
          · rw [if_pos hm] at e
            have hw : (cutS w (some (1 : Nat)) none = "pi" ∨ cutS w (some (1 : Nat)) none = "fun" ∨ cutS w (some (1 : Nat)) none = "app") ∧ "(" ++ cutS w (some (1 : Nat)) none = w := by
              simp only [opens, List.mem_cons, List.not_mem_nil, or_false] at ho
              rcases ho with rfl | rfl | rfl | rfl
              · exact ⟨.inl (by decide +kernel), by decide +kernel⟩
              · exact ⟨.inr (.inl (by decide +kernel)), by decide +kernel⟩
              · exact absurd rfl hl
              · exact ⟨.inr (.inr (by decide +kernel)), by decide +kernel⟩
            obtain ⟨q1, used, rest, q2, q3, q4⟩ := run_words f ws' (n + 2) _ t m (fun x hx => by
              rcases List.mem_cons.mp hx with rfl | hx
              · exact ⟨.inr ⟨hw.1, hm⟩, (fun _ z => nomatch z), by rw [open_need ho hl]; decide⟩
              · exact hg x hx) e
            refine ⟨q1, w :: mk :: used, rest, by rw [q2]; rfl, by rw [q3, List.length_cons, List.length_cons]; omega, ?_⟩
            rw [q4, stWords]
            have hnl : ¬ cutS w (some (1 : Nat)) none = "let" := by
              rcases hw.1 with q | q | q <;> rw [q]
              · exact nle1
              · exact nle2
              · exact nle3
            unfold hdWords
            dsimp only
            rw [if_neg hnl, hw.2]; simp
          · rw [if_neg hm] at e; cases e
    · rw [if_neg ho] at e
      cases el : readLeaf w with
      | none => rw [el] at e; cases e
      | some lf =>
        rw [el] at e
        dsimp only at e
        obtain ⟨l1, l2, l3⟩ := leaf_text el
        obtain ⟨used, e1, e2⟩ := close_words hs lf ws (n + 1) hg l2
        have lw : cwords lf = [w] := by rw [leaf_words l1, l3]
        cases ec : close lf ws (n + 1) hs with
        | error k => rw [ec] at e; cases e
        | ok r =>
          rw [ec] at e e1 e2
          cases r with
          | inl r =>
            obtain ⟨t', m'⟩ := r
            cases e
            obtain ⟨q1, q2, q3⟩ := e2
            refine ⟨q1, w :: used, ws.drop used.length, by rw [List.cons_append, ← e1], by rw [q2, List.length_cons]; omega, ?_⟩
            rw [q3, lw]; simp
          | inr r =>
            obtain ⟨ws', n', hs'⟩ := r
            dsimp only at e e1 e2
            obtain ⟨q1, q2, q3⟩ := e2
            obtain ⟨r1, used', rest, r2, r3, r4⟩ := run_words f ws' n' hs' t m q1 e
            refine ⟨r1, w :: (used ++ used'), rest, by rw [e1, r2]; simp, by rw [r3, q2, List.length_cons, List.length_append]; omega, ?_⟩
            rw [r4, q3, lw]; simp
/-- what is read from words has these words -/
theorem readT_words {ws : List Str} {t : Tm} (h : readT ws = .ok t) : t.wf ∧ cwords t = ws := by
  unfold readT at h
  cases e : run (ws.length + 1) ws 0 [] with
  | error k => rw [e] at h; cases h
  | ok r =>
    obtain ⟨t', n⟩ := r
    rw [e] at h
    dsimp only at h
    by_cases hn : n = ws.length
    · rw [if_pos hn] at h
      cases h
      obtain ⟨q1, used, rest, q2, q3, q4⟩ := run_words _ ws 0 [] t n (fun _ z => nomatch z) e
      refine ⟨q1, ?_⟩
      rw [q4, q2]
      have : rest = [] := by
        have hl := congrArg List.length q2
        rw [List.length_append] at hl
        exact List.length_eq_zero_iff.mp (by omega)
      rw [this]; simp [stWords]
    · rw [if_neg hn] at h; cases h
end RS

/-! Back4: the words of a term are read back; how many, how long, without blanks. -/
namespace RS
open PySem PySem.Spec PyProof.Rows L2 TL

theorem close_len : ∀ (hs : List Hd4) (t : Tm) (ws : List Str) (n : Nat) (ws' : List Str) (n' : Nat) (hs' : List Hd4), close t ws n hs = .ok (.inr (ws', n', hs')) → ws'.length ≤ ws.length
  | [], t, ws, n, ws', n', hs', e => by unfold close at e; cases e
  | h :: hs, t, ws, n, ws', n', hs', e => by
    unfold close at e
    by_cases hk : 1 < h.need
    · rw [if_pos hk] at e; cases e; exact Nat.le_refl _
    · rw [if_neg hk] at e
      cases ws with
      | nil => cases e
      | cons c r =>
        dsimp only at e
        by_cases hc : c = ")"
        · rw [if_pos hc] at e
          have := close_len hs _ r (n + 1) ws' n' hs' e
          rw [List.length_cons]; omega
        · rw [if_neg hc] at e; cases e
theorem run_fuel : ∀ (f g : Nat) (ws : List Str) (n : Nat) (hs : List Hd4), ws.length < f → ws.length < g → run f ws n hs = run g ws n hs
  | 0, _, _, _, _, h, _ => absurd h (Nat.not_lt_zero _)
  | _, 0, _, _, _, _, h => absurd h (Nat.not_lt_zero _)
  | f + 1, g + 1, [], n, hs, _, _ => by unfold run; rfl
  | f + 1, g + 1, w :: ws, n, hs, h1, h2 => by
    rw [List.length_cons] at h1 h2
    unfold run
    by_cases ho : w ∈ opens
    · rw [if_pos ho, if_pos ho]
      by_cases hl : w = "(let"
      · rw [if_pos hl, if_pos hl]
        exact run_fuel f g ws _ _ (by omega) (by omega)
      · rw [if_neg hl, if_neg hl]
        cases ws with
        | nil => rfl
        | cons m r =>
          dsimp only
          by_cases hm : m ∈ markL
          · rw [if_pos hm, if_pos hm]
            rw [List.length_cons] at h1 h2
            exact run_fuel f g r _ _ (by omega) (by omega)
          · rw [if_neg hm, if_neg hm]
    · rw [if_neg ho, if_neg ho]
      cases readLeaf w with
      | none => rfl
      | some t =>
        dsimp only
        cases e : close t ws (n + 1) hs with
        | error k => rfl
        | ok r =>
          cases r with
          | inl r => rfl
          | inr r =>
            obtain ⟨ws', n', hs'⟩ := r
            have := close_len hs t ws (n + 1) ws' n' hs' e
            exact run_fuel f g ws' n' hs' (by omega) (by omega)
/-- the reader, with as much fuel as it wants -/
def Run (ws : List Str) (n : Nat) (hs : List Hd4) : Got (Tm × Nat) := run (ws.length + 1) ws n hs
def closeR (t : Tm) (ws : List Str) (n : Nat) (hs : List Hd4) : Got (Tm × Nat) := match close t ws n hs with
  | .error k => .error k
  | .ok (.inl r) => .ok r
  | .ok (.inr (ws', n', hs')) => Run ws' n' hs'
theorem Run_nil (n : Nat) (hs : List Hd4) : Run [] n hs = .error n := by unfold Run run; rfl
theorem Run_let {ws : List Str} {n : Nat} {hs : List Hd4} : Run ("(let" :: ws) n hs = Run ws (n + 1) (⟨"let", "", []⟩ :: hs) := by
  have h1 : ("(let" : Str) ∈ opens := by decide +kernel
  unfold Run
  rw [List.length_cons]
  conv => lhs; unfold run
  rw [if_pos h1, if_pos rfl]
theorem Run_open {w m : Str} {ws : List Str} {n : Nat} {hs : List Hd4} (h1 : w ∈ opens) (h2 : ¬ w = "(let") (hm : m ∈ markL) : Run (w :: m :: ws) n hs = Run ws (n + 2) (⟨cutS w (some (1 : Nat)) none, m, []⟩ :: hs) := by
  unfold Run
  rw [List.length_cons, List.length_cons]
  conv => lhs; unfold run
  rw [if_pos h1, if_neg h2]
  dsimp only
  rw [if_pos hm]
  exact run_fuel _ _ _ _ _ (by omega) (by omega)
theorem Run_leaf {w : Str} {t : Tm} {ws : List Str} {n : Nat} {hs : List Hd4} (h1 : ¬ w ∈ opens) (hl : readLeaf w = some t) : Run (w :: ws) n hs = closeR t ws (n + 1) hs := by
  unfold Run closeR
  rw [List.length_cons]
  conv => lhs; unfold run
  rw [if_neg h1, hl]
  dsimp only
  cases e : close t ws (n + 1) hs with
  | error k => rfl
  | ok r =>
    cases r with
    | inl r => rfl
    | inr r =>
      obtain ⟨ws', n', hs'⟩ := r
      have := close_len hs t ws (n + 1) ws' n' hs' e
      exact run_fuel _ _ _ _ _ (by omega) (by omega)
theorem open_none {w : Str} (h : w ∈ opens) : readLeaf w = none := by
  have : (opens.all fun w => !(readLeaf w).isSome) = true := by decide +kernel
  have z := List.all_eq_true.mp this w h
  cases e : readLeaf w with
  | none => rfl
  | some t => rw [e] at z; cases z
theorem closeR_more {h : Hd4} {t : Tm} {ws : List Str} {n : Nat} {hs : List Hd4} (hk : 1 < h.need) : closeR t ws n (h :: hs) = Run ws n (h.push t :: hs) := by
  unfold closeR close
  rw [if_pos hk]
theorem closeR_end {h : Hd4} {t : Tm} {ws : List Str} {n : Nat} {hs : List Hd4} (hk : ¬ 1 < h.need) : closeR t (")" :: ws) n (h :: hs) = closeR (h.push t).done ws (n + 1) hs := by
  unfold closeR
  conv => lhs; unfold close
  rw [if_neg hk]
  dsimp only
  rw [if_pos rfl]
theorem run_leafT {t : Tm} (hl : t.isLeaf = true) (h : t.wf) (ws : List Str) (n : Nat) (hs : List Hd4) : Run (cwords t ++ ws) n hs = closeR t ws (n + (cwords t).length) hs := by
  have hb := leaf_back hl h
  rw [leaf_words hl]
  exact Run_leaf (fun q => by rw [open_none q] at hb; cases hb) hb
theorem run_cwords : ∀ (t : Tm), t.wf → ∀ (ws : List Str) (n : Nat) (hs : List Hd4), Run (cwords t ++ ws) n hs = closeR t ws (n + (cwords t).length) hs
  | .num w k, h, ws, n, hs => run_leafT rfl h ws n hs
  | .name x, h, ws, n, hs => run_leafT rfl h ws n hs
  | .count x k, h, ws, n, hs => run_leafT rfl h ws n hs
  | .bin w m a b, h, ws, n, hs => by
    obtain ⟨hw, hm, ha, hb⟩ := h
    have ho : ("(" ++ w) ∈ opens ∧ ¬ ("(" ++ w) = "(let" ∧ cutS ("(" ++ w) (some (1 : Nat)) none = w ∧ ¬ w = "let" ∧ ¬ w = "app" := by
      rcases hw with rfl | rfl
      · exact ⟨by decide +kernel, by decide +kernel, by decide +kernel, nle1, npa⟩
      · exact ⟨by decide +kernel, by decide +kernel, by decide +kernel, nle2, nfa⟩
    obtain ⟨o1, o2, o3, o4, o5⟩ := ho
    have e : cwords (.bin w m a b) ++ ws = ("(" ++ w) :: m :: (cwords a ++ (cwords b ++ ((")" : Str) :: ws))) := by simp [cwords]
    have n1 : 1 < Hd4.need ⟨w, m, []⟩ := by unfold Hd4.need; dsimp only; rw [if_neg o4]; decide
    have n2 : ¬ 1 < Hd4.need (Hd4.push ⟨w, m, []⟩ a) := by rw [need_push]; unfold Hd4.need; dsimp only; rw [if_neg o4]; decide
    have d : (Hd4.push (Hd4.push ⟨w, m, []⟩ a) b).done = .bin w m a b := by unfold Hd4.done Hd4.push; dsimp only; rw [if_neg o4, if_neg o5]; rfl
    rw [e, Run_open o1 o2 hm, o3, run_cwords a ha, closeR_more n1, run_cwords b hb, closeR_end n2, d]
    congr 1
    simp [cwords]; omega
  | .letT a b c, h, ws, n, hs => by
    obtain ⟨ha, hb, hc⟩ := h
    have e : cwords (.letT a b c) ++ ws = ("(let" : Str) :: (cwords a ++ (cwords b ++ (cwords c ++ ((")" : Str) :: ws)))) := by simp [cwords]
    have z0 : Hd4.need ⟨"let", "", []⟩ = 3 := by decide +kernel
    have n1 : 1 < Hd4.need ⟨"let", "", []⟩ := by omega
    have n2 : 1 < Hd4.need (Hd4.push ⟨"let", "", []⟩ a) := by rw [need_push]; omega
    have n3 : ¬ 1 < Hd4.need (Hd4.push (Hd4.push ⟨"let", "", []⟩ a) b) := by rw [need_push, need_push]; omega
    have d : (Hd4.push (Hd4.push (Hd4.push ⟨"let", "", []⟩ a) b) c).done = .letT a b c := by unfold Hd4.done Hd4.push; dsimp only; rw [if_pos rfl]; rfl
    rw [e, Run_let, run_cwords a ha, closeR_more n1, run_cwords b hb, closeR_more n2, run_cwords c hc, closeR_end n3, d]
    congr 1
    simp [cwords]; omega
  | .app f m x, h, ws, n, hs => by
    obtain ⟨hf, hm, hx⟩ := h
    have e : cwords (.app f m x) ++ ws = ("(app" : Str) :: m :: (cwords f ++ (cwords x ++ ((")" : Str) :: ws))) := by simp [cwords]
    have o1 : ("(app" : Str) ∈ opens := by decide +kernel
    have o2 : ¬ ("(app" : Str) = "(let" := by decide +kernel
    have o3 : cutS ("(app" : Str) (some (1 : Nat)) none = "app" := by decide +kernel
    have n1 : 1 < Hd4.need ⟨"app", m, []⟩ := by unfold Hd4.need; dsimp only; rw [if_neg nle3]; decide
    have n2 : ¬ 1 < Hd4.need (Hd4.push ⟨"app", m, []⟩ f) := by rw [need_push]; unfold Hd4.need; dsimp only; rw [if_neg nle3]; decide
    have d : (Hd4.push (Hd4.push ⟨"app", m, []⟩ f) x).done = .app f m x := by unfold Hd4.done Hd4.push; dsimp only; rw [if_neg nle3, if_pos rfl]; rfl
    rw [e, Run_open o1 o2 hm, o3, run_cwords f hf, closeR_more n1, run_cwords x hx, closeR_end n2, d]
    congr 1
    simp [cwords]; omega
/-- THE READ-BACK -/
theorem readT_back {t : Tm} (h : t.wf) : readT (cwords t) = .ok t := by
  have := run_cwords t h [] 0 []
  rw [List.append_nil, Nat.zero_add] at this
  unfold readT
  unfold Run at this
  rw [this]
  unfold closeR close
  dsimp only
  rw [if_pos rfl]
/-! ### how many, how long -/
def wmax : Nat → Nat
  | 0 => 0
  | d + 1 => 2 + 3 * wmax d
theorem wmax_mono {a b : Nat} (h : a ≤ b) : wmax a ≤ wmax b := by
  induction h with
  | refl => exact Nat.le_refl _
  | step _ ih => exact Nat.le_trans ih (by show _ ≤ 2 + 3 * _; omega)
theorem wmax_pos {d : Nat} (h : 1 ≤ d) : 2 ≤ wmax d := by
  obtain ⟨k, rfl⟩ : ∃ k, d = k + 1 := ⟨d - 1, by omega⟩
  show 2 ≤ 2 + 3 * _; omega
theorem depth_pos (t : Tm) : 1 ≤ t.depth := by cases t <;> (unfold Tm.depth; omega)
theorem words_le : ∀ t : Tm, (cwords t).length ≤ wmax t.depth
  | .num _ _ => by show 1 ≤ 2; omega
  | .name _ => by show 1 ≤ 2; omega
  | .count _ _ => by show 1 ≤ 2; omega
  | .bin w m a b => by
    have h1 := words_le a; have h2 := words_le b
    have m1 := wmax_mono (show a.depth ≤ max a.depth b.depth from Nat.le_max_left _ _)
    have m2 := wmax_mono (show b.depth ≤ max a.depth b.depth from Nat.le_max_right _ _)
    have p := wmax_pos (Nat.le_trans (depth_pos a) (Nat.le_max_left a.depth b.depth))
    have e : (cwords (.bin w m a b)).length = 3 + (cwords a).length + (cwords b).length := by simp [cwords]; omega
    have e2 : wmax (Tm.bin w m a b).depth = 2 + 3 * wmax (max a.depth b.depth) := by
      rw [show (Tm.bin w m a b).depth = (max a.depth b.depth) + 1 from Nat.add_comm 1 _]; rfl
    omega
  | .letT a b c => by
    have h1 := words_le a; have h2 := words_le b; have h3 := words_le c
    have m1 := wmax_mono (show a.depth ≤ max a.depth (max b.depth c.depth) from Nat.le_max_left _ _)
    have m2 := wmax_mono (show b.depth ≤ max a.depth (max b.depth c.depth) from Nat.le_trans (Nat.le_max_left _ _) (Nat.le_max_right _ _))
    have m3 := wmax_mono (show c.depth ≤ max a.depth (max b.depth c.depth) from Nat.le_trans (Nat.le_max_right _ _) (Nat.le_max_right _ _))
    have e : (cwords (.letT a b c)).length = 2 + (cwords a).length + (cwords b).length + (cwords c).length := by simp [cwords]; omega
    have e2 : wmax (Tm.letT a b c).depth = 2 + 3 * wmax (max a.depth (max b.depth c.depth)) := by
      rw [show (Tm.letT a b c).depth = (max a.depth (max b.depth c.depth)) + 1 from Nat.add_comm 1 _]; rfl
    omega
  | .app f m x => by
    have h1 := words_le f; have h2 := words_le x
    have m1 := wmax_mono (show f.depth ≤ max f.depth x.depth from Nat.le_max_left _ _)
    have m2 := wmax_mono (show x.depth ≤ max f.depth x.depth from Nat.le_max_right _ _)
    have p := wmax_pos (Nat.le_trans (depth_pos f) (Nat.le_max_left f.depth x.depth))
    have e : (cwords (.app f m x)).length = 3 + (cwords f).length + (cwords x).length := by simp [cwords]; omega
    have e2 : wmax (Tm.app f m x).depth = 2 + 3 * wmax (max f.depth x.depth) := by
      rw [show (Tm.app f m x).depth = (max f.depth x.depth) + 1 from Nat.add_comm 1 _]; rfl
    omega
theorem depth_le : ∀ t : Tm, 4 * t.depth ≤ (cwords t).length + 3
  | .num _ _ => by show 4 ≤ 1 + 3; omega
  | .name _ => by show 4 ≤ 1 + 3; omega
  | .count _ _ => by show 4 ≤ 1 + 3; omega
  | .bin w m a b => by
    have h1 := depth_le a; have h2 := depth_le b; have p1 := depth_pos a; have p2 := depth_pos b
    have e : (cwords (.bin w m a b)).length = 3 + (cwords a).length + (cwords b).length := by simp [cwords]; omega
    unfold Tm.depth; omega
  | .letT a b c => by
    have h1 := depth_le a; have h2 := depth_le b; have h3 := depth_le c; have p1 := depth_pos a; have p2 := depth_pos b; have p3 := depth_pos c
    have e : (cwords (.letT a b c)).length = 2 + (cwords a).length + (cwords b).length + (cwords c).length := by simp [cwords]; omega
    unfold Tm.depth; omega
  | .app f m x => by
    have h1 := depth_le f; have h2 := depth_le x; have p1 := depth_pos f; have p2 := depth_pos x
    have e : (cwords (.app f m x)).length = 3 + (cwords f).length + (cwords x).length := by simp [cwords]; omega
    unfold Tm.depth; omega
theorem nodes_le : ∀ t : Tm, t.nodes ≤ (cwords t).length
  | .num _ _ => Nat.le_refl _
  | .name _ => Nat.le_refl _
  | .count _ _ => Nat.le_refl _
  | .bin w m a b => by
    have h1 := nodes_le a; have h2 := nodes_le b
    have e : (cwords (.bin w m a b)).length = 3 + (cwords a).length + (cwords b).length := by simp [cwords]; omega
    unfold Tm.nodes; omega
  | .letT a b c => by
    have h1 := nodes_le a; have h2 := nodes_le b; have h3 := nodes_le c
    have e : (cwords (.letT a b c)).length = 2 + (cwords a).length + (cwords b).length + (cwords c).length := by simp [cwords]; omega
    unfold Tm.nodes; omega
  | .app f m x => by
    have h1 := nodes_le f; have h2 := nodes_le x
    have e : (cwords (.app f m x)).length = 3 + (cwords f).length + (cwords x).length := by simp [cwords]; omega
    unfold Tm.nodes; omega
/-- a word as it may stand in a text: no blank, not too long -/
def okW (z : Str) : Prop := 32 ∉ cl z ∧ z.length ≤ 64
instance (z : Str) : Decidable (okW z) := by unfold okW; infer_instance
theorem len_app (a b : Str) : (a ++ b).length = a.length + b.length := by rw [← cl_len, ← cl_len, ← cl_len, cl_app, List.length_append]
theorem okW_num {n : Nat} (h : n < 10 ^ 18) : 32 ∉ cl (numS n) ∧ (numS n).length ≤ 18 := by
  have e : cl (numS n) = numL n := tl_num n
  refine ⟨by rw [e]; exact numL_free (by omega), ?_⟩
  rw [← cl_len, e]; exact numL_len (by decide) h
theorem okW_word {z : Str} (h : isWord z = true) : 32 ∉ cl z ∧ z.length ≤ 16 := by
  obtain ⟨c, cs, e, hl, _⟩ := word_spec h
  exact ⟨word_no h no32, by rw [← cl_len, e]; exact hl⟩
theorem okW_leaf {t : Tm} (hl : t.isLeaf = true) (h : t.wf) : okW (leafText t) := by
  cases t with
  | num w n =>
    obtain ⟨k, rfl, hk⟩ : ∃ k : Nat, n = k ∧ k < 10 ^ 18 := by
      rcases h with ⟨_, h0, h4⟩ | ⟨_, h0, h1⟩
      · exact ⟨n.toNat, by omega, by omega⟩
      · exact ⟨n.toNat, by omega, by omega⟩
    have q := okW_num hk
    have hs : 32 ∉ cl (signOf w) ∧ (signOf w).length ≤ 3 := by
      unfold signOf
      split
      · exact ⟨by decide +kernel, by decide +kernel⟩
      · split
        · exact ⟨by decide +kernel, by decide +kernel⟩
        · split
          · exact ⟨by decide +kernel, by decide +kernel⟩
          · exact ⟨by decide +kernel, by decide +kernel⟩
    show okW (signOf w ++ numS k)
    exact ⟨by rw [cl_app, List.mem_append]; exact fun z => z.elim hs.1 q.1, by rw [len_app]; omega⟩
  | name x => exact ⟨(okW_word h).1, by have := (okW_word h).2; show x.length ≤ 64; omega⟩
  | count x n =>
    obtain ⟨hw, h0, h1⟩ := h
    obtain ⟨k, rfl⟩ : ∃ k : Nat, n = k := ⟨n.toNat, by omega⟩
    have q := okW_num (show k < 10 ^ 18 by omega)
    have q2 := okW_word hw
    show okW (x ++ ":" ++ numS k)
    have e1 : cl (":" : Str) = [58] := by decide +kernel
    have e2 : (":" : Str).length = 1 := by decide +kernel
    refine ⟨?_, by rw [len_app, len_app, e2]; omega⟩
    rw [cl_app, cl_app, e1, List.mem_append, List.mem_append]
    rintro ((z | z) | z)
    · exact q2.1 z
    · simp at z
    · exact q.1 z
  | bin w m a b => cases hl
  | letT a b c => cases hl
  | app f m x => cases hl
theorem okW_mark {m : Str} (h : m ∈ markL) : okW m := by
  simp only [markL, List.mem_cons, List.not_mem_nil, or_false] at h
  rcases h with rfl | rfl | rfl | rfl <;> decide +kernel
theorem okW_close : okW ")" := by decide +kernel
theorem okW_words : ∀ t : Tm, t.wf → ∀ z ∈ cwords t, okW z
  | .num w k, h, z, hz => by rw [leaf_words rfl, List.mem_singleton] at hz; rw [hz]; exact okW_leaf rfl h
  | .name x, h, z, hz => by rw [leaf_words rfl, List.mem_singleton] at hz; rw [hz]; exact okW_leaf rfl h
  | .count x k, h, z, hz => by rw [leaf_words rfl, List.mem_singleton] at hz; rw [hz]; exact okW_leaf rfl h
  | .bin w m a b, ⟨hw, hm, ha, hb⟩, z, hz => by
    simp only [cwords, List.mem_append, List.mem_cons, List.not_mem_nil, or_false] at hz
    rcases hz with (((hz | hz) | hz) | hz) | hz
    · rw [hz]; rcases hw with rfl | rfl <;> decide +kernel
    · rw [hz]; exact okW_mark hm
    · exact okW_words a ha z hz
    · exact okW_words b hb z hz
    · rw [hz]; exact okW_close
  | .letT a b c, ⟨ha, hb, hc⟩, z, hz => by
    simp only [cwords, List.mem_append, List.mem_cons, List.not_mem_nil, or_false] at hz
    rcases hz with (((hz | hz) | hz) | hz) | hz
    · rw [hz]; decide +kernel
    · exact okW_words a ha z hz
    · exact okW_words b hb z hz
    · exact okW_words c hc z hz
    · rw [hz]; exact okW_close
  | .app f m x, ⟨hf, hm, hx⟩, z, hz => by
    simp only [cwords, List.mem_append, List.mem_cons, List.not_mem_nil, or_false] at hz
    rcases hz with (((hz | hz) | hz) | hz) | hz
    · rw [hz]; decide +kernel
    · rw [hz]; exact okW_mark hm
    · exact okW_words f hf z hz
    · exact okW_words x hx z hz
    · rw [hz]; exact okW_close
theorem cwords_ne (t : Tm) : cwords t ≠ [] := by cases t <;> simp [cwords]
/-! ### joined, split -/
theorem split_words {ws : List Str} (hne : ws ≠ []) (h : ∀ z ∈ ws, okW z) : Txt.split (Txt.join " " ws) " " = ws :=
  split_join (y := " ") (s := 32) (S := []) (by decide +kernel) (by decide +kernel) hne fun p hp => (h p hp).1
theorem split_empty : Txt.split (Txt.join " " ([] : List Str)) " " = ([""] : List Str) := by decide +kernel
theorem join_len : ∀ (ws : List Str), (∀ z ∈ ws, okW z) → (ws.map (·.length)).sum + ws.length * 1 ≤ 65 * ws.length
  | [], _ => Nat.le_refl _
  | z :: ws, h => by
    have h1 := (h z List.mem_cons_self).2
    have := join_len ws fun y hy => h y (List.mem_cons_of_mem _ hy)
    simp only [List.map_cons, List.sum_cons, List.length_cons]
    omega
theorem sp_cl : cl (" " : Str) = [32] := by decide +kernel
theorem join_cl_len : ∀ (ws : List Str), (∀ z ∈ ws, okW z) → (Txt.join " " ws).length ≤ 65 * ws.length
  | ws, h => by
    rw [join_eq, ← cl_len]
    have key : ∀ l : List Str, (∀ z ∈ l, okW z) → (joinL [32] (l.map cl)).length ≤ 65 * l.length := by
      intro l
      induction l with
      | nil => intro _; exact Nat.le_refl _
      | cons a l ih =>
        intro hl
        have h1 := (hl a List.mem_cons_self).2
        rw [← cl_len] at h1
        have := ih fun y hy => hl y (List.mem_cons_of_mem _ hy)
        cases l with
        | nil => show (cl a).length ≤ 65 * 1; omega
        | cons b l =>
          show (cl a ++ ([32] ++ joinL [32] ((b :: l).map cl))).length ≤ _
          have e2 : (a :: b :: l).length = (b :: l).length + 1 := rfl
          rw [List.length_append, List.length_append]
          show (cl a).length + (1 + _) ≤ _
          omega
    have e := tl_join " " ws
    rw [show tl (" " : Str) = [32] from sp_cl] at e
    rw [show cl (Str.join " " ws) = tl (Str.join " " ws) from rfl, e]
    exact key ws h
end RS

/-! Term4: is_term, leaf_text, core_words. -/
namespace RS
open PySem PySem.Spec PyProof.Rows L2 TL

/-! ### a right term is a node, and so are its parts -/
theorem tm_node {t : Tm} (h : t.wf) : nodeB t.pd = true := by
  cases t with
  | num w n =>
    rcases h with ⟨rfl, h0, h4⟩ | ⟨hw, h0, h1⟩
    · show nodeW "sort" [.int n] = true
      have e : nodeW "sort" [.int n] = numberB 0 3 (.int n) := rfl
      rw [e]; unfold numberB wholeB
      simp; omega
    · have e : nodeW w [.int n] = numberB 0 1000000 (.int n) := by rcases hw with rfl | rfl | rfl <;> rfl
      show nodeW w [.int n] = true
      rw [e]; unfold numberB wholeB
      simp; omega
  | name x =>
    show nodeW "name" [.str x] = true
    have e : nodeW "name" [.str x] = isWord x := rfl
    rw [e]; exact h
  | count x n =>
    obtain ⟨hw, h0, h1⟩ := h
    show nodeW "count" [.str x, .int n] = true
    have e : nodeW "count" [.str x, .int n] = (isWord x && numberB 0 999999999999999999 (.int n)) := rfl
    rw [e, hw]; unfold numberB wholeB
    simp; omega
  | bin w m a b =>
    obtain ⟨hw, hm, _⟩ := h
    have hm : m ∈ markL := hm
    show nodeW w [.str m, a.pd, b.pd] = true
    have e : nodeW w [.str m, a.pd, b.pd] = decide (m ∈ markL) := by rcases hw with rfl | rfl <;> rfl
    rw [e]; exact decide_eq_true hm
  | letT a b c => show nodeW "let" [a.pd, b.pd, c.pd] = true; rfl
  | app f m x =>
    obtain ⟨_, hm, _⟩ := h
    have hm : m ∈ markL := hm
    show nodeW "app" [f.pd, .str m, x.pd] = true
    have e : nodeW "app" [f.pd, .str m, x.pd] = decide (m ∈ markL) := rfl
    rw [e]; exact decide_eq_true hm
theorem pd_str {t : Tm} {z : Str} (h : t.pd = .str z) : False := by cases t <;> cases h
theorem word_len {t : Tm} (h : t.wf) {w : Str} {r : List PyData} (e : t.pd = .tuple (.str w :: r)) : w.length ≤ 100000 := by
  cases t with
  | num w n =>
    cases e
    rcases h with ⟨rfl, _⟩ | ⟨rfl | rfl | rfl, _⟩ <;> decide +kernel
  | name x => cases e; decide +kernel
  | count x n => cases e; decide +kernel
  | bin w m a b => cases e; rcases h.1 with rfl | rfl <;> decide +kernel
  | letT a b c => cases e; decide +kernel
  | app f m x => cases e; decide +kernel
theorem tm_short {t : Tm} (h : t.wf) : shortD t.pd := by
  intro ds e z hz
  have mk : ∀ m : Str, m ∈ markL → m.length ≤ 100000 := fun m hm => by have := (okW_mark hm).2; omega
  have wd : ∀ x : Str, isWord x = true → x.length ≤ 100000 := fun x hx => by have := (okW_word hx).2; omega
  cases t with
  | num w n =>
    cases e
    simp only [List.mem_cons, List.not_mem_nil, or_false, PyData.str.injEq, reduceCtorEq] at hz
    subst hz
    exact word_len h rfl
  | name x =>
    cases e
    simp only [List.mem_cons, List.not_mem_nil, or_false, PyData.str.injEq, reduceCtorEq] at hz
    rcases hz with rfl | rfl
    · decide +kernel
    · exact wd _ h
  | count x n =>
    cases e
    simp only [List.mem_cons, List.not_mem_nil, or_false, PyData.str.injEq, reduceCtorEq] at hz
    rcases hz with rfl | rfl
    · decide +kernel
    · exact wd _ h.1
  | bin w m a b =>
    cases e
    simp only [List.mem_cons, List.not_mem_nil, or_false, PyData.str.injEq] at hz
    rcases hz with rfl | rfl | hz | hz
    · exact word_len (t := .bin z m a b) h rfl
    · exact mk _ h.2.1
    · exact (pd_str hz.symm).elim
    · exact (pd_str hz.symm).elim
  | letT a b c =>
    cases e
    simp only [List.mem_cons, List.not_mem_nil, or_false, PyData.str.injEq] at hz
    rcases hz with rfl | hz | hz | hz
    · decide +kernel
    · exact (pd_str hz.symm).elim
    · exact (pd_str hz.symm).elim
    · exact (pd_str hz.symm).elim
  | app f m x =>
    cases e
    simp only [List.mem_cons, List.not_mem_nil, or_false, PyData.str.injEq] at hz
    rcases hz with rfl | hz | rfl | hz
    · decide +kernel
    · exact (pd_str hz.symm).elim
    · exact mk _ h.2.1
    · exact (pd_str hz.symm).elim
def pts (t : Tm) : List Tm := t.parts.map (·.1)
def sumN (ts : List Tm) : Nat := (ts.map Tm.nodes).sum
theorem pts_wf {t : Tm} (h : t.wf) : ∀ p ∈ pts t, p.wf := by
  cases t with
  | bin w m a b => intro p hp; simp only [pts, Tm.parts, List.map_cons, List.map_nil, List.mem_cons, List.not_mem_nil, or_false] at hp; rcases hp with rfl | rfl; exact h.2.2.1; exact h.2.2.2
  | letT a b c => intro p hp; simp only [pts, Tm.parts, List.map_cons, List.map_nil, List.mem_cons, List.not_mem_nil, or_false] at hp; rcases hp with rfl | rfl | rfl; exact h.1; exact h.2.1; exact h.2.2
  | app f m x => intro p hp; simp only [pts, Tm.parts, List.map_cons, List.map_nil, List.mem_cons, List.not_mem_nil, or_false] at hp; rcases hp with rfl | rfl; exact h.1; exact h.2.2
  | num w n => intro p hp; cases hp
  | name x => intro p hp; cases hp
  | count x n => intro p hp; cases hp
theorem pts_nodes (t : Tm) : sumN (pts t) + 1 = t.nodes := by
  cases t <;> simp [pts, sumN, Tm.parts, Tm.nodes] <;> omega
theorem nodes_pos (t : Tm) : 1 ≤ t.nodes := by cases t <;> (unfold Tm.nodes; omega)
theorem len_sumN : ∀ ts : List Tm, ts.length ≤ sumN ts
  | [] => Nat.le_refl _
  | t :: ts => by have := len_sumN ts; have := nodes_pos t; simp only [sumN, List.map_cons, List.sum_cons, List.length_cons] at *; omega
theorem sumN_app (a b : List Tm) : sumN (a ++ b) = sumN a + sumN b := by simp [sumN]
structure rTerm (K : PySem.W.Frag) (vs : List V) (H : Hp) (Q : VK) : Prop where
  ex : (∃ (v : V) (t : Tm), vs = [v] ∧ Dt K H v t.pd ∧ t.wf ∧ t.nodes ≤ 1000 ∧ ∀ H', Same H H' → Q (.bl true) H') ∨ (∃ v d, vs = [v] ∧ Dt K H v d ∧ shortD d ∧ nodeB d = false ∧ ∀ H', Same H H' → Q (.bl false) H') ∨
    ∃ v t, vs = [v] ∧ (∀ H', Same H H' → TyX K H' v (.type t)) ∧ L2.kitB t "tuple" = some false ∧ ∀ H', Same H H' → Q (.bl false) H'
def spTerm4 (K : PySem.W.Frag) : Sp := fun vs H Q _ => rTerm K vs H Q
theorem pd_parts {t : Tm} : t.parts.map pdP = t.parts.map fun p => PyData.tuple [p.1.pd, .int p.2] := rfl
section
variable {P : Program} {w : World} {K : PySem.W.Frag} {mg : Str → Option Value} {base : Heap}
theorem sc_is_term : FnScope ["value", "left", "one", "part", "ahead"] ["value"] (defScope s_is_term) := ⟨rfl, rfl, rfl, by decide +kernel, rfl, by decide +kernel, by decide +kernel⟩
theorem ok_isterm {f : Addr} {fd : FuncData} (F : Fun K "is_term" "is_term" s_is_term f fd) (Dis_node : Df P w K mg base "is_node" 3 ["value"] (spNode K)) (Down_parts : Df P w K mg base "own_parts" 1 ["term"] (spParts K)) : FnOk P w K mg base CX0 4 f fd ["value"] (spTerm4 K) := by
  refine F.ok sc_is_term (fun vs H Q E h => ?_) (fun cdv A outer s H vs Q E hr h => ?_)
  · rcases h.ex with ⟨v, t, rfl, _⟩ | ⟨v, d, rfl, _⟩ | ⟨v, t, rfl, _⟩ <;> rfl
  · have nd := sc_is_term.nd
    refine ⟨_, (pss_cons (ps_set (i := 1) nd rfl (Or.inl rfl) (pe_lstN (pa_cons (pv 0) pa_nil)))
      (pss_cons (ps_while PassesOwn.never (pt_cmpR (uNe hr.units) (pv 1) (pe_lstN pa_nil) (nomark _))
        (pss_cons (ps_set (i := 2) nd rfl (Or.inl rfl) (pe_bm0 PySem.F.plainAttrs_list PySem.F.slot_list_pop PySem.F.type_list_pop mt_pop (pv 1)))
        (pss_cons (ps_if (pt_not (pt_val (pe_df Dis_node hr (by omega) (pa_cons (pv 2) pa_nil))))
          (pss_one (ps_ret pe_bl))
          pss_nil)
        (pss_one (ps_set (i := 1) nd rfl (Or.inl rfl) (pe_op uAdd (pv 1) (pe_lc (own := [("part", 3), ("ahead", 4)]) (g := gTup K 2 (gCons (gName 3) (gCons (gName 4) gNil))) rfl nd (pi_seq (pe_df Down_parts hr (by omega) (pa_cons (pv 2) pa_nil))) (blkOk_by (own := [("part", 3), ("ahead", 4)]) (N := ["value", "left", "one", "part", "ahead"]) (sc := defScope s_is_term) (by decide +kernel)) (fun _ _ _ _ _ => (pg_tup rfl (pgs_cons (pg_name (i := 3) nd rfl (Or.inl rfl)) (pgs_cons (pg_name (i := 4) nd rfl (Or.inl rfl)) pgs_nil)))) (fun _ _ _ _ _ => pts_nil) (fun _ _ _ _ _ => (pv 3)))))))))
      (pss_one (ps_ret pe_bl)))), ?_⟩
    rcases h.ex with ⟨v, t, rfl, hv, wf, hn, k⟩ | ⟨v, d, rfl, hv, hs, hf, k⟩ | ⟨v, ty, rfl, hty, hkb, k⟩
    · refine ⟨_, rfl, lst_new (xs := [v]) (Nat.le_add_left 1 999) fun l nl => ?_⟩
      refine ⟨fun m σ H1 => ∃ (l : Addr) (vals : List V) (ts : List Tm) (x2 x3 x4 : Option V), σ = [some v, some (.ref l), x2, x3, x4] ∧ H l = none ∧ H1 l = some (.lst vals) ∧ Same H H1 ∧ DtAll K H1 vals (ts.map Tm.pd) ∧ (∀ t ∈ ts, t.wf) ∧ sumN ts ≤ 1000 ∧ m = sumN ts,
        ⟨_, l, [v], [t], _, _, _, rfl, nl, upd_same, same_new nl, .cons (hv.same (same_new nl)) .nil, fun t' ht' => by rw [List.mem_singleton.mp ht']; exact wf, by simpa [sumN] using hn, rfl⟩, ?_⟩
      rintro m σ H1 ⟨l, vals, ts, x2, x3, x4, rfl, nl, hl, e1, hA, wfs, hsum, rfl⟩
      refine ⟨_, rfl, lst_new (Nat.zero_le _) fun p np => eq_n (SqL.of ((upd_ne (ne_of_none hl np)).trans hl)) (SqL.of upd_same) (b := !vals.isEmpty) (by cases vals <;> rfl) ⟨_, rfl, ?_⟩⟩
      have e2 : Same H1 (upd H1 p (.lst [])) := same_new np
      have hl := e2 _ _ hl
      have hA := DtAll.keep (TK.same (K := K) e2) _ hA
      replace e2 := e1.trans e2
      clear e1
      generalize upd H1 p (.lst []) = H2 at e2 hl hA ⊢
      cases hvals : vals.isEmpty with
      | true =>
        refine iteF ?_
        exact k _ e2
      | false =>
        refine iteT ⟨_, fun _ _ h => h, ?_⟩
        have hne : vals ≠ [] := by intro z; rw [z] at hvals; cases hvals
        have hlen : vals.length = ts.length := by have := hA.length; rw [List.length_map] at this; exact this
        have hpos : 0 < vals.length := List.length_pos_iff.mpr hne
        have htne : ts ≠ [] := by intro z; rw [z] at hlen; simp at hlen; exact hne hlen
        obtain ⟨ti, tl, rfl⟩ : ∃ ti tl, ts = ti ++ [tl] := ⟨ts.dropLast, ts.getLast htne, (List.dropLast_concat_getLast htne).symm⟩
        obtain ⟨y, hy, hyD⟩ := hA.get' (i := vals.length - 1) (d := tl.pd) (by rw [hlen]; simp)
        refine ⟨_, rfl, .inl ⟨rfl, vals, .inl (.inl hl)⟩, l, vals, y, rfl, rfl, hl, hy, ?_⟩
        have hA' : DtAll K H2 vals.dropLast (ti.map Tm.pd) := by
          have := hA.dropLast
          rwa [List.map_append, List.map_cons, List.map_nil, List.dropLast_concat] at this
        have tk : TK K H2 (upd H2 l (.lst vals.dropLast)) := TK.lst hl
        have e3 : Same H (upd H2 l (.lst vals.dropLast)) := fun b o q => by rw [upd_ne (ne_of_none q nl)]; exact e2 b o q
        have h3 : upd H2 l (.lst vals.dropLast) l = some (.lst vals.dropLast) := upd_same
        have hyD := Dt.keep tk _ hyD
        have hA' := DtAll.keep tk _ hA'
        generalize upd H2 l (.lst vals.dropLast) = H3 at e3 h3 hyD hA' ⊢
        have wl : tl.wf := wfs tl (by simp)
        refine ⟨_, rfl, ⟨.inl ⟨y, tl.pd, rfl, hyD, tm_short wl, fun H4 e4 => ?_⟩⟩⟩
        rw [tm_node wl]
        refine ⟨_, rfl, iteF ?_⟩
        have h4 := e4 _ _ h3
        refine ⟨_, rfl, _, rfl, y, tl, rfl, hyD.same e4, wl, fun q ps H5 e5 nq hq hP => ?_⟩
        have hA5 := DtAll.keep (TK.same (K := K) (e4.trans e5)) _ hA'
        have h5 := e5 _ _ h4
        have e6 := e3.trans (e4.trans e5)
        refine ⟨q, rfl, .inl ⟨⟨ps, SqL.of hq⟩, fun D nD => lc_list (K := K) (a := q) (xs := ps) (fun i H' => Same H5 H' ∧ ∃ acc, H' D = some (.lst acc) ∧ acc.length = i ∧ DtAll K H' acc ((tl.parts.take i).map fun p => p.1.pd)) ⟨same_new nD, [], upd_same, rfl, by rw [List.take_zero]; exact .nil⟩ (fun i H' _ ⟨c1, _⟩ => SqL.of (c1 _ _ hq)) (fun i x H' hx ⟨c1, acc, hD, hl, dA⟩ => ?_) (fun H6 ⟨c1, acc, hD, hl, dA⟩ => ?_)⟩⟩
        · obtain ⟨d, hd, hDx⟩ := (DtAll.keep (TK.same (K := K) c1) _ hP).get hx
          rw [List.getElem?_map] at hd
          obtain ⟨pr, hpr, rfl⟩ := Option.map_eq_some_iff.mp hd
          obtain ⟨a, xs, rfl, hT, hR⟩ := Dt.tupI hDx
          obtain ⟨v1, r1, rfl, d1, hR⟩ := hR.consI
          obtain ⟨v2, r2, rfl, d2, hR⟩ := hR.consI
          obtain rfl := hR.nilI
          have hi : i < tl.parts.length := (List.getElem?_eq_some_iff.mp hpr).1
          have h3 : tl.parts.length ≤ 3 := by cases tl <;> (unfold Tm.parts; simp)
          refine ⟨a, _, rfl, hT, rfl, _, _, rfl, _, _, rfl, rfl, rfl, _, rfl, acc, hD, lt_line (by omega), sameL c1 nD, _, upd_same, by rw [List.length_append, hl]; rfl, ?_⟩
          have tk : TK K H' (upd H' D (.lst (acc ++ [v1]))) := TK.lst hD
          rw [List.take_succ, hpr, List.map_append]
          exact (DtAll.keep tk _ dA).append (.cons (Dt.keep tk _ d1) .nil)
        · have hps : ps.length = tl.parts.length := by have := hP.length; rw [List.length_map] at this; exact this
          rw [hps, List.take_length] at dA
          have lA := hA5.length
          rw [List.length_map] at lA
          have lD := dA.length
          rw [List.length_map] at lD
          have sl := len_sumN ti
          have sp := len_sumN (pts tl)
          have s1 := sumN_app ti [tl]
          have s2 := sumN_app ti (pts tl)
          have s3 := pts_nodes tl
          have s4 : sumN [tl] = tl.nodes := by simp [sumN]
          have lp : (pts tl).length = tl.parts.length := by unfold pts; rw [List.length_map]
          refine add_l (c1 _ _ h5) hD (line_of (by omega)) fun p6 np6 => ?_
          refine ⟨sumN (ti ++ pts tl), by omega, p6, vals.dropLast ++ acc, ti ++ pts tl, _, _, _, rfl, ?_, upd_same, (e6.trans c1).trans (same_new np6), ?_, ?_, by omega, rfl⟩
          · cases z : H p6 with
            | none => rfl
            | some o => have := (e6.trans c1) _ _ z; rw [np6] at this; cases this
          · rw [List.map_append]
            have tk : TK K H6 (upd H6 p6 (.lst (vals.dropLast ++ acc))) := TK.new np6
            refine (DtAll.keep ((TK.same (K := K) c1).trans tk) _ hA5).append ?_
            have e : (pts tl).map Tm.pd = tl.parts.map fun p => p.1.pd := by unfold pts; rw [List.map_map]; rfl
            rw [e]
            exact DtAll.keep tk _ dA
          · intro t' ht'
            rcases List.mem_append.mp ht' with q | q
            · exact wfs t' (List.mem_append_left _ q)
            · exact pts_wf wl t' q
    · refine ⟨_, rfl, lst_new (xs := [v]) (Nat.le_add_left 1 999) fun l nl => ?_⟩
      refine ⟨fun m σ H1 => m = 0 ∧ ∃ x2 x3 x4 : Option V, σ = [some v, some (.ref l), x2, x3, x4] ∧ H1 l = some (.lst [v]) ∧ Same H H1, ⟨0, rfl, _, _, _, rfl, upd_same, same_new nl⟩, ?_⟩
      rintro m σ H1 ⟨rfl, x2, x3, x4, rfl, hl, e1⟩
      refine ⟨_, rfl, lst_new (Nat.zero_le _) fun p np => eq_n (SqL.of ((upd_ne (ne_of_none hl np)).trans hl)) (SqL.of upd_same) (b := true) rfl ⟨_, rfl, iteT ⟨fun _ _ => False, fun _ _ z => z.elim, ?_⟩⟩⟩
      have e2 : Same H1 (upd H1 p (.lst [])) := same_new np
      have hl := e2 _ _ hl
      replace e2 := e1.trans e2
      generalize upd H1 p (.lst []) = H2 at e2 hl ⊢
      refine ⟨_, rfl, .inl ⟨rfl, [v], .inl (.inl hl)⟩, l, [v], v, rfl, rfl, hl, rfl, ?_⟩
      have e3 : Same H (upd H2 l (.lst ([v] : List V).dropLast)) := fun b o q => by rw [upd_ne (ne_of_none q nl)]; exact e2 b o q
      generalize upd H2 l (.lst ([v] : List V).dropLast) = H3 at e3 ⊢
      refine ⟨_, rfl, ⟨.inl ⟨v, d, rfl, hv.same e3, hs, fun H4 e4 => ?_⟩⟩⟩
      rw [hf]
      exact ⟨_, rfl, iteT (k _ (e3.trans e4))⟩
    · refine ⟨_, rfl, lst_new (xs := [v]) (Nat.le_add_left 1 999) fun l nl => ?_⟩
      refine ⟨fun m σ H1 => m = 0 ∧ ∃ x2 x3 x4 : Option V, σ = [some v, some (.ref l), x2, x3, x4] ∧ H1 l = some (.lst [v]) ∧ Same H H1, ⟨0, rfl, _, _, _, rfl, upd_same, same_new nl⟩, ?_⟩
      rintro m σ H1 ⟨rfl, x2, x3, x4, rfl, hl, e1⟩
      refine ⟨_, rfl, lst_new (Nat.zero_le _) fun p np => eq_n (SqL.of ((upd_ne (ne_of_none hl np)).trans hl)) (SqL.of upd_same) (b := true) rfl ⟨_, rfl, iteT ⟨fun _ _ => False, fun _ _ z => z.elim, ?_⟩⟩⟩
      have e2 : Same H1 (upd H1 p (.lst [])) := same_new np
      have hl := e2 _ _ hl
      replace e2 := e1.trans e2
      generalize upd H1 p (.lst []) = H2 at e2 hl ⊢
      refine ⟨_, rfl, .inl ⟨rfl, [v], .inl (.inl hl)⟩, l, [v], v, rfl, rfl, hl, rfl, ?_⟩
      have e3 : Same H (upd H2 l (.lst ([v] : List V).dropLast)) := fun b o q => by rw [upd_ne (ne_of_none q nl)]; exact e2 b o q
      generalize upd H2 l (.lst ([v] : List V).dropLast) = H3 at e3 ⊢
      exact ⟨_, rfl, ⟨.inr ⟨v, ty, rfl, hty _ e3, hkb, ⟨_, rfl, iteT (k _ e3)⟩⟩⟩⟩
end
end RS

/-! LeafT4: leaf_text, core_words, _law_k04_words. -/
namespace RS
open PySem PySem.Spec PyProof.Rows L2 TL

structure KSigns (K : PySem.W.Frag) (w : World) (a : Addr) : Prop where
  b : KDct K w a "bound" (.str "#")
  l : KDct K w a "local" (.str "$")
  h : KDct K w a "hole" (.str "?")
theorem log_small {n : Int} (h0 : 0 ≤ n) (h1 : n < 10 ^ 18) : n.natAbs.log2 < 1920 := by
  by_cases z : n.natAbs = 0
  · rw [z]; decide
  · exact Nat.lt_of_lt_of_le ((Nat.log2_lt z).mpr (show n.natAbs < 2 ^ 60 by omega)) (by decide)
theorem len_num {n : Int} (h0 : 0 ≤ n) (h1 : n < 10 ^ 18) : (Str.ofString (toString n)).length ≤ 18 := by
  obtain ⟨k, rfl⟩ : ∃ k : Nat, n = k := ⟨n.toNat, by omega⟩
  exact (okW_num (show k < 10 ^ 18 by omega)).2
structure rLeafT (K : PySem.W.Frag) (vs : List V) (H : Hp) (Q : VK) : Prop where
  ex : ∃ (v : V) (t : Tm), vs = [v] ∧ Dt K H v t.pd ∧ t.wf ∧ t.isLeaf = true ∧ Q (.str (leafText t)) H
def spLeafT (K : PySem.W.Frag) : Sp := fun vs H Q _ => rLeafT K vs H Q
section
variable {P : Program} {w : World} {K : PySem.W.Frag} {mg : Str → Option Value} {base : Heap}
theorem sc_leaf_text : FnScope ["term"] ["term"] (defScope s_leaf_text) := ⟨rfl, rfl, rfl, by decide +kernel, rfl, by decide +kernel, by decide +kernel⟩
theorem ok_leaf_text {f a_SIGNS : Addr} {fd : FuncData} (F : Fun K "leaf_text" "leaf_text" s_leaf_text f fd) (n_str : mg "str" = none) (g_SIGNS : mg "SIGNS" = some (.ref a_SIGNS)) (q_SIGNS : KSigns K w a_SIGNS) : FnOk P w K mg base CX0 1 f fd ["term"] (spLeafT K) := by
  refine F.ok sc_leaf_text (fun vs H Q E h => ?_) (fun cdv A outer s H vs Q E hr h => ?_)
  · obtain ⟨v, t, rfl, _⟩ := h.ex; rfl
  · obtain ⟨v, t, rfl, hv, wf, hl, k⟩ := h.ex
    have nd := sc_leaf_text.nd
    refine ⟨_, (pss_cons (ps_if (pt_cmpR (uEq hr.units) (pe_ix ix_seq (pv 0) pe_int (fun _ _ => rfl)) pe_str (nomark _))
        (pss_one (ps_ret (pe_op uAdd pe_str (pe_callTy call_str_int (by rfl) n_str (by decide +kernel) (pa_cons (pe_ix ix_seq (pv 0) pe_int (fun _ _ => rfl)) pa_nil)))))
        pss_nil)
      (pss_cons (ps_if (pt_cmpR (uEq hr.units) (pe_ix ix_seq (pv 0) pe_int (fun _ _ => rfl)) pe_str (nomark _))
        (pss_one (ps_ret (pe_ix ix_seq (pv 0) pe_int (fun _ _ => rfl))))
        pss_nil)
      (pss_cons (ps_if (pt_cmpR (uEq hr.units) (pe_ix ix_seq (pv 0) pe_int (fun _ _ => rfl)) pe_str (nomark _))
        (pss_one (ps_ret (pe_op uAdd (pe_op uAdd (pe_ix ix_seq (pv 0) pe_int (fun _ _ => rfl)) pe_str) (pe_callTy call_str_int (by rfl) n_str (by decide +kernel) (pa_cons (pe_ix ix_seq (pv 0) pe_int (fun _ _ => rfl)) pa_nil)))))
        pss_nil)
      (pss_one (ps_ret (pe_op uAdd (pe_ix ix_kdict (pe_glob (v := .ref _) rfl g_SIGNS rfl) (pe_ix ix_seq (pv 0) pe_int (fun _ _ => rfl)) (fun _ _ => rfl)) (pe_callTy call_str_int (by rfl) n_str (by decide +kernel) (pa_cons (pe_ix ix_seq (pv 0) pe_int (fun _ _ => rfl)) pa_nil)))))))), ?_⟩
    cases t with
    | bin _ _ _ _ => cases hl
    | letT _ _ _ => cases hl
    | app _ _ _ => cases hl
    | name x =>
      obtain ⟨p, rfl, hT⟩ := dt_name hv
      refine ⟨_, rfl, ixt (i := 0) hT rfl (eq_str (b := false) (by decide +kernel) ⟨_, rfl, iteF ?_⟩)⟩
      refine ⟨_, rfl, ixt (i := 0) hT rfl (eq_str (b := true) (by decide +kernel) ⟨_, rfl, iteT ?_⟩)⟩
      exact ⟨_, rfl, ixt (i := 1) hT rfl k⟩
    | count x n =>
      obtain ⟨p, rfl, hT⟩ := dt_count hv
      obtain ⟨hw, h0, h1⟩ := wf
      have lx := (okW_word hw).2
      have ln := len_num h0 h1
      have l1 : (":" : Str).length = 1 := by decide +kernel
      refine ⟨_, rfl, ixt (i := 0) hT rfl (eq_str (b := false) (by decide +kernel) ⟨_, rfl, iteF ?_⟩)⟩
      refine ⟨_, rfl, ixt (i := 0) hT rfl (eq_str (b := false) (by decide +kernel) ⟨_, rfl, iteF ?_⟩)⟩
      refine ⟨_, rfl, ixt (i := 0) hT rfl (eq_str (b := true) (by decide +kernel) ⟨_, rfl, iteT ?_⟩)⟩
      refine ⟨_, rfl, ixt (i := 1) hT rfl (add_s (line_of (by omega)) ⟨_, rfl, ixt (i := 2) hT rfl ⟨n, rfl, log_small h0 h1, add_s (line_of (by rw [len_app]; omega)) k⟩⟩)⟩
    | num w' n =>
      obtain ⟨p, rfl, hT⟩ := dt_num hv
      obtain ⟨h0, h1⟩ : 0 ≤ n ∧ n < 10 ^ 18 := by rcases wf with ⟨_, a, b⟩ | ⟨_, a, b⟩ <;> (constructor <;> omega)
      have ln := len_num h0 h1
      rcases wf with ⟨rfl, _⟩ | ⟨hw, _⟩
      · refine ⟨_, rfl, ixt (i := 0) hT rfl (eq_str (b := true) (by decide +kernel) ⟨_, rfl, iteT ?_⟩)⟩
        have l1 : ("Set" : Str).length = 3 := by decide +kernel
        exact ⟨_, rfl, ixt (i := 1) hT rfl ⟨n, rfl, log_small h0 h1, add_s (line_of (by omega)) k⟩⟩
      · rcases hw with rfl | rfl | rfl
        all_goals
          refine ⟨_, rfl, ixt (i := 0) hT rfl (eq_str (b := false) (by decide +kernel) ⟨_, rfl, iteF ?_⟩)⟩
          refine ⟨_, rfl, ixt (i := 0) hT rfl (eq_str (b := false) (by decide +kernel) ⟨_, rfl, iteF ?_⟩)⟩
          refine ⟨_, rfl, ixt (i := 0) hT rfl (eq_str (b := false) (by decide +kernel) ⟨_, rfl, iteF ?_⟩)⟩
          refine ⟨_, rfl, ixt (i := 0) hT rfl ⟨a_SIGNS, _, _, rfl, rfl, by first | exact q_SIGNS.l | exact q_SIGNS.b | exact q_SIGNS.h, _, rfl, ixt (i := 1) hT rfl ⟨n, rfl, log_small h0 h1, add_s (line_of (Nat.le_trans (Nat.add_le_add_left ln _) (by decide +kernel))) k⟩⟩⟩
end
end RS

/-! Words4: core_words, term_text. -/
namespace RS
open PySem PySem.Spec PyProof.Rows L2 TL

structure rCW (K : PySem.W.Frag) (N : Nat) (vs : List V) (H : Hp) (Q : VK) : Prop where
  ex : ∃ (v : V) (t : Tm), vs = [v] ∧ Dt K H v t.pd ∧ t.wf ∧ t.depth ≤ N ∧ (cwords t).length ≤ 5000 ∧ ∀ l H', Same H H' → H l = none → H' l = some (.lst ((cwords t).map V.str)) → Q (.ref l) H'
def spCW (K : PySem.W.Frag) (N : Nat) : Sp := fun vs H Q _ => rCW K N vs H Q
theorem cat_st {K : PySem.W.Frag} {l b : Addr} {xs zs : List Str} {H : Hp} {Q : VK} (h1 : H l = some (.lst (xs.map V.str))) (h2 : H b = some (.lst (zs.map V.str))) (hl : xs.length + zs.length ≤ 5100)
    (h : ∀ p, H p = none → Q (.ref p) (upd H p (.lst ((xs ++ zs).map V.str)))) : rAddU K (.ref l) (.ref b) H Q := add_l h1 h2 (by rw [List.length_map, List.length_map, sizeLine_eq]; omega) fun p np => by
  have := h p np
  rwa [List.map_append] at this
theorem one_st {x : Str} {H : Hp} {Q : VK} (h : ∀ p, H p = none → Q (.ref p) (upd H p (.lst (([x] : List Str).map V.str)))) : rNewL [.str x] H Q := lst_new (xs := [.str x]) (Nat.le_add_left 1 999) h
theorem parts_nil (t : Tm) : t.parts.isEmpty = t.isLeaf := by cases t <;> rfl
section
variable {P : Program} {w : World} {K : PySem.W.Frag} {mg : Str → Option Value} {base : Heap}
theorem sc_core_words : FnScope ["term", "word", "inner"] ["term"] (defScope s_core_words) := ⟨rfl, rfl, rfl, by decide +kernel, rfl, by decide +kernel, by decide +kernel⟩
theorem cw_none {f : Addr} {fd : FuncData} : FnOk P w K mg base CX0 2 f fd ["term"] (spCW K 0) := by
  refine ⟨fun vs H Q E h => ?_, fun A outer s H args us vs Q E _ _ _ _ h => ?_⟩
  · obtain ⟨v, t, _, _, _, h2, _⟩ := h.ex
    exact absurd h2 (by have := depth_pos t; omega)
  · obtain ⟨v, t, _, _, _, h2, _⟩ := h.ex
    exact absurd h2 (by have := depth_pos t; omega)
theorem ok_core_words {f : Addr} {fd : FuncData} (F : Fun K "core_words" "core_words" s_core_words f fd) (hm : mg "core_words" = some (.ref f)) (b : Binds K fd ["term"] [])
    (Down_parts : Df P w K mg base "own_parts" 1 ["term"] (spParts K)) (Dleaf_text : Df P w K mg base "leaf_text" 1 ["term"] (spLeafT K)) : ∀ N, FnOk P w K mg base CX0 (N + 2) f fd ["term"] (spCW K N)
  | 0 => cw_none
  | N + 1 => by
    have Dcore_words : Df P w K mg base "core_words" (N + 2) ["term"] (spCW K N) := ⟨f, fd, ok_core_words F hm b Down_parts Dleaf_text N, hm, F.kp, b⟩
    refine F.ok sc_core_words (fun vs H Q E h => ?_) (fun cdv A outer s H vs Q E hr h => ?_)
    · obtain ⟨v, t, rfl, _⟩ := h.ex; rfl
    · obtain ⟨v, t, rfl, hv, wf, hd, hn, k⟩ := h.ex
      have nd := sc_core_words.nd
      obtain ⟨p, xs, rfl, hT⟩ := dt_word hv
      have e3 := wf_let wf
      have e4 := wf_app wf
      refine ⟨_, (pss_cons (ps_set (i := 1) nd rfl (Or.inl rfl) (pe_ix ix_seq (pv 0) pe_int (fun _ _ => rfl)))
      (pss_cons (ps_if (pt_cmpR (uEq hr.units) (pe_df Down_parts hr (by omega) (pa_cons (pv 0) pa_nil)) (pe_lstN pa_nil) (nomark _))
        (pss_one (ps_ret (pe_lstN (pa_cons (pe_df Dleaf_text hr (by omega) (pa_cons (pv 0) pa_nil)) pa_nil))))
        pss_nil)
      (pss_cons (ps_join (ps_if (pt_cmpR (uEq hr.units) (pv 1) pe_str (nomark _))
        (pss_one (ps_set (i := 2) nd rfl (Or.inl rfl) (pe_op uAdd (pe_op uAdd (pe_df Dcore_words hr (by omega) (pa_cons (pe_ix ix_seq (pv 0) pe_int (fun _ _ => rfl)) pa_nil)) (pe_df Dcore_words hr (by omega) (pa_cons (pe_ix ix_seq (pv 0) pe_int (fun _ _ => rfl)) pa_nil))) (pe_df Dcore_words hr (by omega) (pa_cons (pe_ix ix_seq (pv 0) pe_int (fun _ _ => rfl)) pa_nil)))))
        (pss_one (ps_if (pt_cmpR (uEq hr.units) (pv 1) pe_str (nomark _))
          (pss_one (ps_set (i := 2) nd rfl (Or.inl rfl) (pe_op uAdd (pe_op uAdd (pe_lstN (pa_cons (pe_ix ix_seq (pv 0) pe_int (fun _ _ => rfl)) pa_nil)) (pe_df Dcore_words hr (by omega) (pa_cons (pe_ix ix_seq (pv 0) pe_int (fun _ _ => rfl)) pa_nil))) (pe_df Dcore_words hr (by omega) (pa_cons (pe_ix ix_seq (pv 0) pe_int (fun _ _ => rfl)) pa_nil)))))
          (pss_one (ps_set (i := 2) nd rfl (Or.inl rfl) (pe_op uAdd (pe_op uAdd (pe_lstN (pa_cons (pe_ix ix_seq (pv 0) pe_int (fun _ _ => rfl)) pa_nil)) (pe_df Dcore_words hr (by omega) (pa_cons (pe_ix ix_seq (pv 0) pe_int (fun _ _ => rfl)) pa_nil))) (pe_df Dcore_words hr (by omega) (pa_cons (pe_ix ix_seq (pv 0) pe_int (fun _ _ => rfl)) pa_nil)))))))))
      (pss_one (ps_ret (pe_op uAdd (pe_op uAdd (pe_lstN (pa_cons (pe_op uAdd pe_str (pv 1)) pa_nil)) (pv 2)) (pe_lstN (pa_cons pe_str pa_nil)))))))), ?_⟩
      refine ⟨_, rfl, ixt (i := 0) hT rfl ?_⟩
      refine ⟨_, rfl, _, t, rfl, hv, wf, fun l ls H1 e1 nl hl hP => ?_⟩
      have hlen := hP.length
      rw [List.length_map] at hlen
      have hem : ls.isEmpty = t.isLeaf := by rw [← parts_nil]; cases ls <;> cases q : t.parts <;> (rw [q] at hlen; simp at hlen ⊢)
      refine lst_new (Nat.zero_le _) fun q nq => eq_n (SqL.of ((upd_ne (ne_of_none hl nq)).trans hl)) (SqL.of upd_same) (b := t.isLeaf) (by rw [hem]; exact Bool.false_xor _) ⟨_, rfl, ?_⟩
      have e2 : Same H (upd H1 q (.lst [])) := e1.trans (same_new nq)
      generalize upd H1 q (.lst []) = H2 at e2 ⊢
      clear hP hl hlen hem nq nl e1
      refine ite2 (fun hleaf => ?_) (fun hleaf => ?_)
      · refine ⟨_, rfl, ⟨_, t, rfl, hv.same e2, wf, hleaf, ?_⟩⟩
        refine one_st fun p3 n3 => ?_
        have ew : cwords t = [leafText t] := leaf_words hleaf
        rw [ew] at k
        exact k p3 _ (e2.trans (same_new n3)) (e2.free n3) upd_same
      · have fin : ∀ (l : Addr) (I : List Str) (H3 : Hp), Same H H3 → H3 l = some (.lst (I.map V.str)) → cwords t = (["(" ++ t.word] : List Str) ++ I ++ ([")"] : List Str) → (fun (σ : L2.St) (H' : Hp) => ∃ l I, σ = [some (.ref p), some (.str t.word), some (.ref l)] ∧ H' l = some (.lst (I.map V.str)) ∧ Same H H' ∧ cwords t = (["(" ++ t.word] : List Str) ++ I ++ ([")"] : List Str)) [some (.ref p), some (.str t.word), some (.ref l)] H3 := fun l I H3 a b c => ⟨l, I, rfl, b, a, c⟩
        refine ⟨fun (σ : L2.St) (H' : Hp) => ∃ l I, σ = [some (.ref p), some (.str t.word), some (.ref l)] ∧ H' l = some (.lst (I.map V.str)) ∧ Same H H' ∧ cwords t = (["(" ++ t.word] : List Str) ++ I ++ ([")"] : List Str), ?_, ?_⟩
        · refine ⟨_, rfl, eq_f rfl (by rw [e3]) ⟨_, rfl, ?_⟩⟩
          cases t with
          | num _ _ => cases hleaf rfl
          | name _ => cases hleaf rfl
          | count _ _ => cases hleaf rfl
          | letT a b c =>
            obtain ⟨p', va, vb, vc, e, hB, ha, hb, hc⟩ := dt_let hv
            cases e
            obtain ⟨wa, wb, wc⟩ := wf
            have ld : a.depth ≤ N ∧ b.depth ≤ N ∧ c.depth ≤ N := by unfold Tm.depth at hd; omega
            have ll : (cwords (.letT a b c)).length = 2 + (cwords a).length + (cwords b).length + (cwords c).length := by simp [cwords]; omega
            refine iteT ⟨_, rfl, ixt (i := 1) (sqs hB e2) rfl ⟨_, a, rfl, ha.same e2, wa, ld.1, by omega, fun l1 H3 s3 n1 h1 => ?_⟩⟩
            have e3 := e2.trans s3
            refine ⟨_, rfl, ixt (i := 2) (sqs hB e3) rfl ⟨_, b, rfl, hb.same e3, wb, ld.2.1, by omega, fun l2 H4 s4 n2 h2 => ?_⟩⟩
            have e4 := e3.trans s4
            refine cat_st (s4 _ _ h1) h2 (by omega) fun p5 n5 => ?_
            have e5 := e4.trans (same_new (o := .lst ((cwords a ++ cwords b).map V.str)) n5)
            refine ⟨_, rfl, ixt (i := 3) (sqs hB e5) rfl ⟨_, c, rfl, hc.same e5, wc, ld.2.2, by omega, fun l3 H6 s6 n6 h6 => ?_⟩⟩
            refine cat_st (s6 _ _ upd_same) h6 (by rw [List.length_append]; omega) fun p7 n7 => ?_
            exact fin p7 _ _ ((e5.trans s6).trans (same_new n7)) upd_same (by simp [cwords, Tm.word]; decide +kernel)
          | bin w' m a b =>
            obtain ⟨p', va, vb, e, hB, ha, hb⟩ := dt_bin hv
            cases e
            obtain ⟨ww, wm, wa, wb⟩ := wf
            have ld : a.depth ≤ N ∧ b.depth ≤ N := by unfold Tm.depth at hd; omega
            have ll : (cwords (.bin w' m a b)).length = 3 + (cwords a).length + (cwords b).length := by simp [cwords]; omega
            refine iteF ⟨_, rfl, eq_f rfl (by rw [e4]; exact Bool.false_xor _) ⟨_, rfl, iteF ?_⟩⟩
            refine ⟨_, rfl, ixt (i := 1) (sqs hB e2) rfl (one_st fun p2 n2 => ?_)⟩
            have e3 := e2.trans (same_new (o := .lst (([m] : List Str).map V.str)) n2)
            refine ⟨_, rfl, ixt (i := 2) (sqs hB e3) rfl ⟨_, a, rfl, ha.same e3, wa, ld.1, by omega, fun l1 H4 s4 n4 h4 => ?_⟩⟩
            refine cat_st (s4 _ _ upd_same) h4 (by rw [List.length_singleton]; omega) fun p5 n5 => ?_
            have e5 := (e3.trans s4).trans (same_new (o := .lst (([m] ++ cwords a).map V.str)) n5)
            refine ⟨_, rfl, ixt (i := 3) (sqs hB e5) rfl ⟨_, b, rfl, hb.same e5, wb, ld.2, by omega, fun l3 H6 s6 n6 h6 => ?_⟩⟩
            refine cat_st (s6 _ _ upd_same) h6 (by rw [List.length_append, List.length_singleton]; omega) fun p7 n7 => ?_
            exact fin p7 _ _ ((e5.trans s6).trans (same_new n7)) upd_same (by simp [cwords, Tm.word])
          | app a m b =>
            obtain ⟨p', va, vb, e, hB, ha, hb⟩ := dt_app hv
            cases e
            obtain ⟨wa, wm, wb⟩ := wf
            have ld : a.depth ≤ N ∧ b.depth ≤ N := by unfold Tm.depth at hd; omega
            have ll : (cwords (.app a m b)).length = 3 + (cwords a).length + (cwords b).length := by simp [cwords]; omega
            refine iteF ⟨_, rfl, eq_f rfl (by rw [e4]; exact Bool.false_xor _) ⟨_, rfl, iteT ?_⟩⟩
            refine ⟨_, rfl, ixt (i := 2) (sqs hB e2) rfl (one_st fun p2 n2 => ?_)⟩
            have e3 := e2.trans (same_new (o := .lst (([m] : List Str).map V.str)) n2)
            refine ⟨_, rfl, ixt (i := 1) (sqs hB e3) rfl ⟨_, a, rfl, ha.same e3, wa, ld.1, by omega, fun l1 H4 s4 n4 h4 => ?_⟩⟩
            refine cat_st (s4 _ _ upd_same) h4 (by rw [List.length_singleton]; omega) fun p5 n5 => ?_
            have e5 := (e3.trans s4).trans (same_new (o := .lst (([m] ++ cwords a).map V.str)) n5)
            refine ⟨_, rfl, ixt (i := 3) (sqs hB e5) rfl ⟨_, b, rfl, hb.same e5, wb, ld.2, by omega, fun l3 H6 s6 n6 h6 => ?_⟩⟩
            refine cat_st (s6 _ _ upd_same) h6 (by rw [List.length_append, List.length_singleton]; omega) fun p7 n7 => ?_
            exact fin p7 _ _ ((e5.trans s6).trans (same_new n7)) upd_same (by simp [cwords, Tm.word]; rfl)
        · rintro σ H3 ⟨l, I, rfl, hl, e, ew⟩
          have lI : (cwords t).length = I.length + 2 := by rw [ew]; simp
          have lw : t.word.length ≤ 100000 := by cases t <;> exact word_len wf rfl
          refine ⟨_, rfl, add_s (Nat.le_trans (Nat.add_le_add_left lw _) (by decide +kernel)) (one_st fun p4 n4 => ?_)⟩
          have e4 := e.trans (same_new (o := .lst ((["(" ++ t.word] : List Str).map V.str)) n4)
          refine ⟨_, rfl, cat_st upd_same ((upd_ne (ne_of_none hl n4)).trans hl) (by rw [List.length_singleton]; omega) fun p5 n5 => ?_⟩
          have e5 := e4.trans (same_new (o := .lst (((["(" ++ t.word] : List Str) ++ I).map V.str)) n5)
          refine one_st fun p6 n6 => ?_
          refine cat_st ((upd_ne (ne_of_none upd_same n6)).trans upd_same) upd_same (by rw [List.length_append, List.length_singleton, List.length_singleton]; omega) fun p7 n7 => ?_
          rw [← ew]
          exact k p7 _ ((e5.trans (same_new n6)).trans (same_new n7)) ((e5.trans (same_new n6)).free n7) upd_same
end
end RS

/-! Text4: term_text. -/
namespace RS
open PySem PySem.Spec PyProof.Rows L2 TL

/-- no term at all -/
def badT (K : PySem.W.Frag) (H : Hp) (v : V) : Prop := (∃ d, Dt K H v d ∧ shortD d ∧ nodeB d = false) ∨ ∃ t, (∀ H', Same H H' → TyX K H' v (.type t)) ∧ L2.kitB t "tuple" = some false
structure rTT (K : PySem.W.Frag) (CB : Addr) (N : Nat) (vs : List V) (H : Hp) (Q : VK) (E : XK) : Prop where
  ex : ∃ v, vs = [v] ∧ ((∃ t : Tm, Dt K H v t.pd ∧ t.wf ∧ t.depth ≤ N ∧ (cwords t).length ≤ 1000 ∧ ∀ H', Same H H' → Q (.str (Txt.join " " (cwords t))) H') ∨ (badT K H v ∧ ∀ H', Same H H' → E (.ref CB) none H'))
def spTT (K : PySem.W.Frag) (CB : Addr) (N : Nat) : Sp := fun vs H Q E => rTT K CB N vs H Q E
/-- an own class without its own __init__, raised -/
structure Own1 (K : PySem.W.Frag) (mg : Str → Option Value) (x : Str) (C : Addr) : Prop where
  e : PySem.W.excIn K C [.type "ValueError", .type "Exception", .type "BaseException", .type "object"] "ValueError.__new__" = true
  g : mg x = some (.ref C)
  q : PySem.W.keepIn K (.ref C) = true
  b : PySem.W.subIn K (.ref C) (.type "BaseException") = some true
  t : PySem.W.typeIn K (.ref C) = some (.type "type")
section
variable {P : Program} {w : World} {K : PySem.W.Frag} {mg : Str → Option Value} {base : Heap}
theorem sc_term_text : FnScope ["term"] ["term"] (defScope s_term_text) := ⟨rfl, rfl, rfl, by decide +kernel, rfl, by decide +kernel, by decide +kernel⟩
theorem ok_term_text {N : Nat} {f CB : Addr} {fd : FuncData} (F : Fun K "term_text" "term_text" s_term_text f fd) (O : Own1 K mg "BadTerm" CB) (Dis_term : Df P w K mg base "is_term" 4 ["value"] (spTerm4 K)) (Dcore_words : Df P w K mg base "core_words" (N + 2) ["term"] (spCW K N)) (N2 : 2 ≤ N) :
    FnOk P w K mg base (L2.CX P w) (N + 3) f fd ["term"] (spTT K CB N) := by
  obtain ⟨x_BadTerm, g_BadTerm, q_BadTerm, b_BadTerm, t_BadTerm⟩ := O
  refine F.okX sc_term_text (fun vs H Q E h => ?_) (fun cdv A outer s H vs Q E hr h => ?_)
  · obtain ⟨v, rfl, _⟩ := h.ex; rfl
  · obtain ⟨v, rfl, h2⟩ := h.ex; clear h
    have nd := sc_term_text.nd
    refine ⟨_, (pss_cons (ps_if (pt_not (pt_val (pe_df Dis_term hr (by omega) (pa_cons (pv 0) pa_nil))))
        (pss_one (ps_raise rfl (takes_of rfl rfl rfl rfl) (pmk_own PySem.F.excBase_ValueError x_BadTerm g_BadTerm q_BadTerm (raises_own b_BadTerm t_BadTerm) rfl)))
        pss_nil)
      (pss_one (ps_ret (pe_join pe_str (pe_df Dcore_words hr (by omega) (pa_cons (pv 0) pa_nil)))))), ?_⟩
    rcases h2 with ⟨t, hv, wf, hd, hn, k⟩ | ⟨hb, k⟩
    · refine ⟨_, rfl, ⟨.inl ⟨v, t, rfl, hv, wf, Nat.le_trans (nodes_le t) hn, fun H1 e1 => ⟨true, rfl, iteF ?_⟩⟩⟩⟩
      refine ⟨⟨_, rfl⟩, _, rfl, ⟨v, t, rfl, hv.same e1, wf, hd, by omega, fun l H2 e2 n2 h2 => ?_⟩⟩
      have hl := join_len (cwords t) (okW_words t wf)
      exact ⟨" ", l, _, rfl, rfl, .inl (SqL.of h2), Nat.le_trans hl (by omega), k _ (e1.trans e2)⟩
    · rcases hb with ⟨d, hd, hs, hf⟩ | ⟨t, ht, hk⟩
      · exact ⟨_, rfl, ⟨.inr (.inl ⟨v, d, rfl, hd, hs, hf, fun H1 e1 => ⟨false, rfl, iteT (k _ e1)⟩⟩)⟩⟩
      · exact ⟨_, rfl, ⟨.inr (.inr ⟨v, t, rfl, ht, hk, fun H1 e1 => ⟨false, rfl, iteT (k _ e1)⟩⟩)⟩⟩
end
end RS

/-! Num4: read_number, _law_k04_number. -/
namespace RS
open PySem PySem.Spec PyProof.Rows L2 TL

/-- a test whose answer is known, new things left behind -/
def ValS (t : TT) (σ : L2.St) (H : Hp) (b : Bool) : Prop := ∀ Q : Bool → Hp → Prop, (∀ H', Same H H' → Q b H') → t σ H Q
theorem ValS.and {tA tB : TT} {σ : L2.St} {H : Hp} {a b : Bool} (hA : ValS tA σ H a) (hB : a = true → ∀ H', Same H H' → ValS tB σ H' b) : ValS (tAnd tA tB) σ H (a && b) := fun Q h => by
  refine hA _ fun H1 e1 => ?_
  cases a with
  | true => exact iteT (hB rfl H1 e1 _ fun H2 e2 => h _ (e1.trans e2))
  | false => exact iteF (h _ e1)
theorem ValS.or {tA tB : TT} {σ : L2.St} {H : Hp} {a b : Bool} (hA : ValS tA σ H a) (hB : a = false → ∀ H', Same H H' → ValS tB σ H' b) : ValS (tOr tA tB) σ H (a || b) := fun Q h => by
  refine hA _ fun H1 e1 => ?_
  cases a with
  | true => exact iteT (h _ e1)
  | false => exact iteF (hB rfl H1 e1 _ fun H2 e2 => h _ (e1.trans e2))
theorem ws_val {t : TT} {σ : L2.St} {H : Hp} {Q : Bool → Hp → Prop} (b : Bool) (hv : ValS t σ H b) (h : ∀ H', Same H H' → Q b H') : tW t σ H Q := ⟨hv _ h⟩
theorem ws_in {t : TT} {σ : L2.St} {H : Hp} {b : Bool} (hv : ValS t σ H b) : ValS (tW t) σ H b := fun _ h => ⟨hv _ h⟩
def numV (z : Str) : V := match readNum z with
  | some n => .int (n : Nat)
  | none => .non
def numD (z : Str) : PyData := match readNum z with
  | some n => .int (n : Nat)
  | none => .none
theorem num_dt {K : PySem.W.Frag} {H : Hp} (z : Str) : Dt K H (numV z) (numD z) := by
  unfold numV numD
  cases readNum z with
  | none => exact .non
  | some n => exact .int _
structure rRN (vs : List V) (H : Hp) (Q : VK) : Prop where
  ex : ∃ z, vs = [.str z] ∧ z.length ≤ 100000 ∧ ∀ H', Same H H' → Q (numV z) H'
def spRN : Sp := fun vs H Q _ => rRN vs H Q
/-- first part of the judge -/
def badN (z : Str) : Bool := decide (z = "") || (decide (18 < (z.length : Int)) || !((cl z).all fun d => decide (d ∈ cl cs_DIGITS)))
theorem digB_split {z : Str} {c : Nat} {cs : List Nat} (e : cl z = c :: cs) : digB z = (!badN z && !(decide (c = 48) && !decide (z = "0"))) := by
  have hn := str_ne e
  have hl : z.length = (c :: cs).length := by rw [← e, cl_len]
  unfold digB badN
  rw [e, decide_eq_false hn, hl]
  dsimp only
  have h1 : decide ((c :: cs).length ≤ 18) = !decide (18 < (((c :: cs).length : Nat) : Int)) := by
    rw [Bool.eq_iff_iff, Bool.not_eq_true', decide_eq_true_eq, decide_eq_false_iff_not]; omega
  have h2 : (c == 48) = decide (c = 48) := by by_cases h : c = 48 <;> simp [h]
  rw [h1, h2]
  cases decide (18 < (((c :: cs).length : Nat) : Int)) <;> cases ((c :: cs).all fun d => decide (d ∈ cl cs_DIGITS)) <;> cases decide (c = 48) <;> cases decide (z = "0") <;> rfl
theorem digB_bad {z : Str} (h : badN z = true) : digB z = false := by
  cases e : cl z with
  | nil => unfold digB; rw [e]
  | cons c cs => rw [digB_split e, h]; rfl
theorem one_sg {c : Nat} {z : Str} : (⟨#[c]⟩ : Str) = "0" ↔ c = 48 := by
  constructor
  · intro h
    have : cl (⟨#[c]⟩ : Str) = cl "0" := by rw [h]
    have e0 : cl ("0" : Str) = [48] := by decide +kernel
    rw [e0] at this
    exact (List.cons.inj this).1
  · rintro rfl; exact str_ext (by decide +kernel)
section
variable {P : Program} {w : World} {K : PySem.W.Frag} {mg : Str → Option Value} {base : Heap}
theorem sc_read_number : FnScope ["word", "sign"] ["word"] (defScope s_read_number) := ⟨rfl, rfl, rfl, by decide +kernel, rfl, by decide +kernel, by decide +kernel⟩
theorem ok_read_number {f : Addr} {fd : FuncData} {t1 : Tok} (F : Fun K "read_number" "read_number" s_read_number f fd) (n_len : mg "len" = none) (n_all : mg "all" = none) (n_int : mg "int" = none) (g_DIGITS : mg "DIGITS" = some (.str cs_DIGITS t1)) : FnOk P w K mg base CX0 1 f fd ["word"] spRN := by
  refine F.ok sc_read_number (fun vs H Q E h => ?_) (fun cdv A outer s H vs Q E hr h => ?_)
  · obtain ⟨z, rfl, _⟩ := h.ex; rfl
  · obtain ⟨z, rfl, hz, k⟩ := h.ex
    have nd := sc_read_number.nd
    refine ⟨_, (pss_cons (ps_if (pt_w (PW.pt (pw_or (pt_cmpR (uEq hr.units) (pv 0) pe_str (nomark _)) (pw_or (pt_cmpR op_gt (pe_callB uLen (by rfl) n_len (by decide +kernel) (pa_cons (pv 0) pa_nil)) pe_int (nomark _)) (pw_or1 (pt_not (pt_val (pe_callB (cr_all rfl) (by rfl) n_all (by decide +kernel) (pa_cons (pe_lc (own := [("sign", 1)]) (g := gName 1) rfl nd (pi_str (pv 0)) (blkOk_by (own := [("sign", 1)]) (N := ["word", "sign"]) (sc := defScope s_read_number) (by decide +kernel)) (fun _ _ _ _ _ => (pg_name (i := 1) nd rfl (Or.inl rfl))) (fun _ _ _ _ _ => pts_nil) (fun _ _ _ _ _ => (pe_cmpR (uInK (K := K) rfl) (pv 1) (pe_glob (v := .str cs_DIGITS) rfl g_DIGITS ⟨_, rfl⟩) (by rfl)))) pa_nil)))))))))
        (pss_one (ps_ret pe_non))
        pss_nil)
      (pss_one (ps_ret (pe_ifExp (pt_w (PW.pt (pw_and (pt_cmpR (uEq hr.units) (pe_ix ix_seq (pv 0) pe_int (fun _ _ => rfl)) pe_str (nomark _)) (pw_and1 (pt_cmpR (uNe hr.units) (pv 0) pe_str (nomark _)))))) pe_non (pe_callTy call_int_str (by rfl) n_int (by decide +kernel) (pa_cons (pv 0) pa_nil)))))), ?_⟩
    refine ws_val (badN z) (.or (a := decide (z = "")) (fun Q' q => ⟨_, rfl, eq_str (Bool.false_xor _) ⟨_, rfl, q _ (Same.refl _)⟩⟩) fun _ H1 e1 => .or (a := decide (18 < (z.length : Int))) (fun Q' q => ⟨_, rfl, _, _, rfl, lenS hz, _, _, rfl, rfl, _, rfl, q _ (Same.refl _)⟩) fun hl H2 e2 Q' q => ?_) (fun H3 e3 => ?_)
    · have hl := of_decide_eq_false hl
      refine ⟨_, rfl, z, rfl, fun D nD => lc_it walk_str (fun i H1 => Same H2 H1 ∧ H1 D = some (.lst ((((cl z).take i).map fun d => decide (d ∈ cl cs_DIGITS)).map V.bl))) ⟨same_new nD, upd_same⟩ (fun _ _ _ _ => trivial) ?_ ?_⟩
      · rintro i x H1 H2 hi ⟨q1, q2⟩ ⟨rfl, d, hd, rfl⟩
        refine ⟨rfl, _, rfl, ?_⟩
        have hd' : (cl z)[i]? = some d := by simpa using hd
        refine in_sg (Bool.false_xor _) ⟨_, q2, ?_, sameL q1 nD, ?_⟩
        · rw [List.length_map, List.length_map, List.length_take, cl_len]
          rw [sizeLine_eq]; omega
        · rw [upd_same, List.take_succ, hd']
          simp
      · rintro H1 ⟨q1, q2⟩
        refine ⟨D, _, rfl, SqL.of q2, ?_⟩
        have e2 : ((((cl z).take z.cps.size).map fun d => decide (d ∈ cl cs_DIGITS)).all id) = ((cl z).all fun d => decide (d ∈ cl cs_DIGITS)) := by
          rw [List.take_of_length_le (by simp), List.all_map]; rfl
        rw [e2]
        exact ⟨_, rfl, q _ q1⟩
    · refine ite2 (fun hb => ?_) (fun hb => ?_)
      · have hd := digB_bad hb
        have e : numV z = .non := by unfold numV readNum; rw [hd]; rfl
        rw [e] at k
        exact k _ e3
      · have hb := eq_false_of_ne_true hb
        cases e : cl z with
        | nil => unfold badN at hb; rw [str_nil e] at hb; simp at hb
        | cons c cs =>
          have hd := digB_split e
          rw [hb] at hd
          refine ws_val (decide (c = 48) && !decide (z = "0")) (.and (a := decide (c = 48)) (fun Q' q => ⟨_, rfl, ix_s (i := 0) hz (by rw [e]; rfl) (eq_str (by rw [Bool.false_xor, Bool.eq_iff_iff, decide_eq_true_eq, decide_eq_true_eq]; exact one_sg (z := z)) ⟨_, rfl, q _ (Same.refl _)⟩)⟩)
            fun _ H4 e4 Q' q => ⟨_, rfl, eq_str (by rw [Bool.true_xor]) ⟨_, rfl, q _ (Same.refl _)⟩⟩) (fun H4 e4 => ite2 (fun hc => ?_) (fun hc => ?_))
          · have e : numV z = .non := by unfold numV readNum; rw [hd, hc]; rfl
            rw [e] at k
            exact k _ (e3.trans e4)
          · have hc := eq_false_of_ne_true hc
            rw [hc] at hd
            have e : numV z = .int (NumText.digitsVal (cl z) : Nat) := by unfold numV readNum; rw [hd]; rfl
            rw [e] at k
            exact ⟨_, rfl, z, _, rfl, int_of_digB hd, by have := (digB_digits hd).2.2; omega, k _ (e3.trans e4)⟩
end
end RS

/-! ReadL4: read_leaf. -/
namespace RS
open PySem PySem.Spec PyProof.Rows L2 TL

theorem walk_kd {kvs : List (Key × V)} : Walk (ItD kvs) kvs.length (fun _ => True) (fun i H x H' => ∃ T k v, kvs[i]? = some (k, v) ∧ x = .ref T ∧ H T = none ∧ H' = upd H T (.tup [kV k, v])) :=
  ⟨fun _ _ hi _ => hi, fun _ _ => Nat.le_refl _, fun _ _ _ _ _ _ y => y⟩
def sgK : List (Key × V) := [(.inr "bound", .str "#"), (.inr "local", .str "$"), (.inr "hole", .str "?")]
structure rRL (K : PySem.W.Frag) (vs : List V) (H : Hp) (Q : VK) : Prop where
  ex : ∃ z, vs = [.str z] ∧ z.length ≤ 100000 ∧ ∀ v H', Same H H' → (match readLeaf z with | some t => Dt K H' v t.pd | none => v = .non) → Q v H'
def spRL (K : PySem.W.Frag) : Sp := fun vs H Q _ => rRL K vs H Q
theorem non_num {z : Str} : (!decide (numV z = .non)) = (readNum z).isSome := by
  unfold numV
  cases readNum z with
  | none => rfl
  | some n => rfl
theorem node_num {w : Str} (hw : w = "bound" ∨ w = "local" ∨ w = "hole") (z : Str) {n : Nat} (e : readNum z = some n) : nodeB (.tuple [.str w, numD z]) = decide (n ≤ 1000000) := by
  have e1 : numD z = .int (n : Nat) := by unfold numD; rw [e]
  have e2 : nodeB (.tuple [.str w, numD z]) = numberB 0 1000000 (numD z) := by rcases hw with rfl | rfl | rfl <;> rfl
  rw [e2, e1]
  unfold numberB wholeB
  have := (readNum_lt e).1
  rw [Bool.eq_iff_iff]
  simp
  omega
theorem node_count {a : Str} (z : Str) {n : Nat} (e : readNum z = some n) : nodeB (.tuple [.str "count", .str a, numD z]) = isWord a := by
  have e1 : numD z = .int (n : Nat) := by unfold numD; rw [e]
  have e2 : nodeB (.tuple [.str "count", .str a, numD z]) = (isWord a && numberB 0 999999999999999999 (numD z)) := rfl
  rw [e2, e1]
  have := (readNum_lt e).1
  have e3 : numberB 0 999999999999999999 (.int (n : Nat)) = true := by unfold numberB wholeB; simp; omega
  rw [e3, Bool.and_true]
theorem short_num {w : Str} (hw : w.length ≤ 100000) (z : Str) : shortD (.tuple [.str w, numD z]) := by
  intro ds e y hy
  cases e
  simp only [List.mem_cons, List.not_mem_nil, or_false, PyData.str.injEq] at hy
  rcases hy with rfl | hy
  · exact hw
  · unfold numD at hy; cases q : readNum z <;> (rw [q] at hy; cases hy)
theorem short_count {a : Str} (hw : a.length ≤ 100000) (z : Str) : shortD (.tuple [.str "count", .str a, numD z]) := by
  intro ds e y hy
  cases e
  simp only [List.mem_cons, List.not_mem_nil, or_false, PyData.str.injEq] at hy
  rcases hy with rfl | rfl | hy
  · decide +kernel
  · exact hw
  · unfold numD at hy; cases q : readNum z <;> (rw [q] at hy; cases hy)
theorem cut_le (z : Str) (i : Nat) : (cutS z (some (i : Nat)) none).length ≤ z.length := by
  rw [← cl_len, ← cl_len, cutS_from, List.length_drop]; omega
theorem cut1R {z : Str} {c : Nat} {cs : List Nat} (e : cl z = c :: cs) : cutS z none (some (1 : Nat)) = ⟨#[c]⟩ := str_ext (by rw [cutS_to, e]; rfl)
theorem colon_sg : (":" : Str) = ⟨#[58]⟩ := by decide +kernel
theorem setL_num : (((List.range 4).map fun i : Nat => Str.ofString (toString ((0 : Int) + (i : Nat))))) = setL := by decide +kernel
theorem set_dig {d : Str} (h : d ∈ setL) : digB d = true := by
  have : (setL.all fun d => digB d) = true := by decide +kernel
  exact List.all_eq_true.mp this d h
section
variable {P : Program} {w : World} {K : PySem.W.Frag} {mg : Str → Option Value} {base : Heap}
theorem sc_read_leaf : FnScope ["word", "name", "sign", "leaf", "number", "kind", "level"] ["word"] (defScope s_read_leaf) := ⟨rfl, rfl, rfl, by decide +kernel, rfl, by decide +kernel, by decide +kernel⟩
theorem ok_read_leaf {f a_SIGNS : Addr} {fd : FuncData} {t1 : Tok} (F : Fun K "read_leaf" "read_leaf" s_read_leaf f fd) (n_str : mg "str" = none) (n_int : mg "int" = none) (n_range : mg "range" = none) (g_LEVELS : mg "LEVELS" = some (.int ci_LEVELS t1)) (g_SIGNS : mg "SIGNS" = some (.ref a_SIGNS)) (q_SIGNS : KD K w a_SIGNS sgK)
    (Dread_number : Df P w K mg base "read_number" 1 ["word"] spRN) (Dis_node : Df P w K mg base "is_node" 3 ["value"] (spNode K)) (Dis_word : Df P w K mg base "is_word" 1 ["value"] (spWord K)) : FnOk P w K mg base CX0 4 f fd ["word"] (spRL K) := by
  refine F.ok sc_read_leaf (fun vs H Q E h => ?_) (fun cdv A outer s H vs Q E hr h => ?_)
  · obtain ⟨z, rfl, _⟩ := h.ex; rfl
  · obtain ⟨z, rfl, hz, k⟩ := h.ex
    have nd := sc_read_leaf.nd
    have hS : z.length + 2 ≤ sizeLine := by rw [sizeLine_eq]; omega
    refine ⟨_, (pss_cons (ps_if (pt_w (PW.pt (pw_and (pt_cmpR (uEq hr.units) (pe_slice uSl (pv 0) po_none (po_some pe_int)) pe_str (nomark _)) (pw_and1 (pt_cmpR uIn (pe_slice uSl (pv 0) (po_some pe_int) po_none) (pe_lc (own := [("level", 6)]) (g := gName 6) rfl nd (pi_range1 rfl n_range (pa_cons (pe_glob (v := .int ci_LEVELS) rfl g_LEVELS ⟨_, rfl⟩) pa_nil)) (blkOk_by (own := [("level", 6)]) (N := ["word", "name", "sign", "leaf", "number", "kind", "level"]) (sc := defScope s_read_leaf) (by decide +kernel)) (fun _ _ _ _ _ => (pg_name (i := 6) nd rfl (Or.inl rfl))) (fun _ _ _ _ _ => pts_nil) (fun _ _ _ _ _ => (pe_callTy call_str_int (by rfl) n_str (by decide +kernel) (pa_cons (pv 6) pa_nil)))) (by rfl))))))
        (pss_one (ps_ret (pe_tupN (pa_cons pe_str (pa_cons (pe_callTy call_int_str (by rfl) n_int (by decide +kernel) (pa_cons (pe_slice uSl (pv 0) (po_some pe_int) po_none) pa_nil)) pa_nil)))))
        pss_nil)
      (pss_cons (ps_for PassesOwn.never rfl (pi_kd (pe_glob (v := .ref _) rfl g_SIGNS rfl)) (pg_tup rfl (pgs_cons (pg_name (i := 1) nd rfl (Or.inl rfl)) (pgs_cons (pg_name (i := 2) nd rfl (Or.inl rfl)) pgs_nil)))
        (pss_one (ps_if (pt_cmpR (uEq hr.units) (pe_slice uSl (pv 0) po_none (po_some pe_int)) (pv 2) (nomark _))
          (pss_cons (ps_set (i := 4) nd rfl (Or.inl rfl) (pe_df Dread_number hr (by omega) (pa_cons (pe_slice uSl (pv 0) (po_some pe_int) po_none) pa_nil)))
          (pss_cons (ps_set (i := 3) nd rfl (Or.inl rfl) (pe_tupN (pa_cons (pv 1) (pa_cons (pv 4) pa_nil))))
          (pss_one (ps_ret (pe_ifExp (pt_w (PW.pt (pw_and (pt_cmpR op_notN (pv 4) pe_non (nomark _)) (pw_and1 (pt_val (pe_df Dis_node hr (by omega) (pa_cons (pv 3) pa_nil))))))) (pv 3) pe_non)))))
          pss_nil)))
      (pss_cons (ps_if (pt_cmpR uIn pe_str (pv 0) (by rfl))
        (pss_cons (ps_asg (pe_bm PySem.F.plainAttrs_str PySem.F.slot_str_split PySem.F.type_str_split mt_splitMax (pv 0) (pa_cons pe_str (pa_cons pe_int pa_nil))) (pg_unl rfl (pgs_cons (pg_name (i := 5) nd rfl (Or.inl rfl)) (pgs_cons (pg_name (i := 4) nd rfl (Or.inl rfl)) pgs_nil))))
        (pss_cons (ps_set (i := 3) nd rfl (Or.inl rfl) (pe_tupN (pa_cons pe_str (pa_cons (pv 5) (pa_cons (pe_df Dread_number hr (by omega) (pa_cons (pv 4) pa_nil)) pa_nil)))))
        (pss_one (ps_ret (pe_ifExp (pt_w (PW.pt (pw_and (pt_cmpR op_notN (pe_ix ix_seq (pv 3) pe_int (fun _ _ => rfl)) pe_non (nomark _)) (pw_and1 (pt_val (pe_df Dis_node hr (by omega) (pa_cons (pv 3) pa_nil))))))) (pv 3) pe_non)))))
        pss_nil)
      (pss_one (ps_ret (pe_ifExp (pt_val (pe_df Dis_word hr (by omega) (pa_cons (pv 0) pa_nil))) (pe_tupN (pa_cons pe_str (pa_cons (pv 0) pa_nil))) pe_non)))))), ?_⟩
    have eS : isSet z = (decide (cutS z none (some (3 : Nat)) = "Set") && inV (.str (cutS z (some (3 : Nat)) none)) (setL.map V.str)) := by
      unfold isSet; rw [inV_str]
      congr 1
      rw [Bool.eq_iff_iff, List.any_eq_true, decide_eq_true_eq]
      constructor
      · rintro ⟨d, hd, e⟩; rw [of_decide_eq_true e]; exact hd
      · intro h; exact ⟨_, h, decide_eq_true rfl⟩
    refine ws_val (isSet z) ?_ (fun H1 e1 => ite2 (fun h1 => ?_) (fun h1 => ?_))
    · rw [eS]
      refine .and (a := decide (cutS z none (some (3 : Nat)) = "Set")) (fun Q' q => ⟨_, rfl, ⟨((3 : Nat) : Int), rfl, sl_s hz (eq_str (Bool.false_xor _) ⟨_, rfl, q _ (Same.refl _)⟩)⟩⟩) fun _ H1 e1 Q' q => ⟨_, rfl, ⟨((3 : Nat) : Int), rfl, sl_s hz ?_⟩⟩
      refine ⟨4, rfl, by decide, by decide, fun D nD => lc_it walk_range (fun i H2 => Same H1 H2 ∧ H2 D = some (.lst ((((List.range i).map fun i : Nat => Str.ofString (toString ((0 : Int) + (i : Nat)))).map V.str)))) ⟨same_new nD, upd_same⟩ (fun _ _ _ _ => trivial) ?_ ?_⟩
      · rintro i x H2 H3 hi ⟨q1, q2⟩ ⟨rfl, rfl⟩
        have hi : i < 4 := hi
        refine ⟨rfl, _, rfl, _, rfl, log_small (by omega) (by omega), _, q2, ?_, sameL q1 nD, ?_⟩
        · rw [List.length_map, List.length_map, List.length_range]
          rw [sizeLine_eq]; omega
        · rw [upd_same, List.range_succ, List.map_append, List.map_append]; rfl
      · rintro H2 ⟨q1, q2⟩
        have q2 : H2 D = some (.lst (setL.map V.str)) := by rw [← setL_num]; exact q2
        exact in_l (SqL.of q2) rfl (flat_strs _) (Bool.false_xor _) ⟨_, rfl, q _ q1⟩
    · have h2 : cutS z (some (3 : Nat)) none ∈ setL := by
        rw [eS, Bool.and_eq_true, inV_str] at h1
        exact of_decide_eq_true h1.2
      have hd := set_dig h2
      refine ⟨_, rfl, ⟨((3 : Nat) : Int), rfl, sl_s hz ⟨_, _, rfl, int_of_digB hd, by have := (digB_digits hd).2.2; omega, ?_⟩⟩⟩
      have er : readLeaf z = some (.num "sort" (NumText.digitsVal (cl (cutS z (some (3 : Nat)) none)) : Nat)) := by
        unfold readLeaf readNum; rw [if_pos h1, if_pos hd]; rfl
      rw [er] at k
      exact tup_new (K := K) (ds := [.str "sort", .int (NumText.digitsVal (cl (cutS z (some (3 : Nat)) none)) : Nat)]) (.cons (.str _) (.cons (.int _) .nil)) (by show 2 ≤ 1000; decide) fun v H2 e2 dv => k v H2 (e1.trans e2) dv
    · have hns : ¬ isSet z = true := h1
      refine ⟨⟨a_SIGNS, sgK, rfl, q_SIGNS, for_it walk_kd (fun i σ H2 => Same H1 H2 ∧ (∃ x1 x2 x3 x4 x5 x6 : Option V, σ = [some (.str z), x1, x2, x3, x4, x5, x6]) ∧ ∀ j < i, ∀ c, [35, 36, 63][j]? = some c → ∀ r, ¬ cl z = c :: r)
        ⟨Same.refl _, ⟨none, none, none, none, none, none, rfl⟩, fun j hj => absurd hj (Nat.not_lt_zero j)⟩ (fun _ _ _ _ _ => trivial) ?_ ?_⟩⟩
      · rintro i x σ H2 H3 hi ⟨e2, ⟨x1, x2, x3, x4, x5, x6, rfl⟩, hno⟩ ⟨T, ky, sv, hkv, rfl, nT, rfl⟩
        have e3 : Same H1 (upd H2 T (.tup [kV ky, sv])) := e2.trans (same_new nT)
        have hT : SqT K (upd H2 T (.tup [kV ky, sv])) T [kV ky, sv] := SqT.of upd_same
        generalize upd H2 T (.tup [kV ky, sv]) = H4 at e3 hT ⊢
        obtain ⟨w', sg, c, hw, hsg, hc, ek, es, hrl⟩ : ∃ (w' sg : Str) (c : Nat), (w' = "bound" ∨ w' = "local" ∨ w' = "hole") ∧ sg = ⟨#[c]⟩ ∧ [35, 36, 63][i]? = some c ∧ ky = .inr w' ∧ sv = .str sg ∧ (∀ r, cl z = c :: r → readLeaf z = leafN w' (readNum (cutS z (some (1 : Nat)) none))) := by
          clear k e1 e2 e3 hno hT
          match i, hi, hkv with
          | 0, _, hkv => cases Option.some.inj hkv; exact ⟨"bound", "#", 35, .inl rfl, by decide +kernel, rfl, rfl, rfl, fun r hr2 => by unfold readLeaf; rw [if_neg hns, hr2]; rfl⟩
          | 1, _, hkv => cases Option.some.inj hkv; exact ⟨"local", "$", 36, .inr (.inl rfl), by decide +kernel, rfl, rfl, rfl, fun r hr2 => by unfold readLeaf; rw [if_neg hns, hr2]; rfl⟩
          | 2, _, hkv => cases Option.some.inj hkv; exact ⟨"hole", "?", 63, .inr (.inr rfl), by decide +kernel, rfl, rfl, rfl, fun r hr2 => by unfold readLeaf; rw [if_neg hns, hr2]; rfl⟩
          | i + 3, hi, _ => exact absurd hi (by show ¬ i + 3 < 3; omega)
        subst ek; subst es
        refine ⟨T, _, rfl, hT, rfl, _, _, rfl, _, _, rfl, rfl, ?_⟩
        refine ⟨_, rfl, ⟨((1 : Nat) : Int), rfl, sl_s hz ⟨_, rfl, eq_str (Bool.false_xor _) ⟨_, rfl, ite2 (fun hq => ?_) (fun hq => ?_)⟩⟩⟩⟩
        · have hq := of_decide_eq_true hq
          obtain ⟨r, hr1⟩ : ∃ r, cl z = c :: r := by
            have e9 := cutS_to z 1
            have : cl (cutS z none (some (1 : Nat))) = [c] := by rw [hq, hsg]
            rw [this] at e9
            cases e : cl z with
            | nil => rw [e] at e9; cases e9
            | cons d ds => rw [e] at e9; injection e9 with e10 _; exact ⟨ds, by rw [e10]⟩
          have hR := hrl r hr1
          rw [hR] at k
          refine ⟨_, rfl, ⟨((1 : Nat) : Int), rfl, sl_s hz ⟨_, rfl, Nat.le_trans (cut_le z 1) hz, fun H5 e5 => ?_⟩⟩⟩
          refine ⟨_, rfl, _, rfl, tup_new (K := K) (ds := [.str w', numD (cutS z (some (1 : Nat)) none)]) (.cons (.str _) (.cons (num_dt _) .nil)) (by show 2 ≤ 1000; decide) fun v H6 e6 dv => ?_⟩
          have e66 := (e1.trans e3).trans (e5.trans e6)
          cases en : readNum (cutS z (some (1 : Nat)) none) with
          | none =>
            rw [en] at k
            refine ws_val false (.and (a := false) (b := false) (fun Q' q => ⟨_, rfl, rfl, _, by rw [non_num, en]; rfl, q _ (Same.refl _)⟩) (fun z => nomatch z)) (fun H7 e7 => iteF (k _ _ (e66.trans e7) rfl))
          | some n =>
            rw [en] at k
            have hw5 : w'.length ≤ 100000 := by rcases hw with rfl | rfl | rfl <;> decide +kernel
            refine ws_val (decide (n ≤ 1000000)) (.and (a := true) (b := decide (n ≤ 1000000)) (fun Q' q => ⟨_, rfl, rfl, _, by rw [non_num, en]; rfl, q _ (Same.refl _)⟩) fun _ H7 e7 Q' q => ⟨_, rfl, ⟨.inl ⟨v, _, rfl, dv.same e7, short_num hw5 _, fun H8 e8 => ⟨_, by rw [node_num hw _ en], q _ e8⟩⟩⟩⟩) (fun H7 e7 => ite2 (fun hn => ?_) (fun hn => ?_))
            · have hn := of_decide_eq_true hn
              unfold leafN at k
              (try simp only at k)
              rw [if_pos hn] at k
              have e1 : numD (cutS z (some (1 : Nat)) none) = .int (n : Nat) := by unfold numD; rw [en]
              rw [e1] at dv
              exact ⟨_, rfl, k v _ (e66.trans e7) (dv.same e7)⟩
            · have hn := of_decide_eq_false (eq_false_of_ne_true hn)
              unfold leafN at k
              (try simp only at k)
              rw [if_neg hn] at k
              exact k _ _ (e66.trans e7) rfl
        · have hq := of_decide_eq_false (eq_false_of_ne_true hq)
          refine ⟨e3, ⟨_, _, _, _, _, _, rfl⟩, fun j hj d hd r hr2 => ?_⟩
          rcases Nat.lt_succ_iff_lt_or_eq.mp hj with hj | rfl
          · exact hno j hj d hd r hr2
          · rw [hc] at hd
            cases Option.some.inj hd
            exact hq (by rw [cut1R hr2, hsg])
      · rintro σ H2 ⟨e2, ⟨x1, x2, x3, x4, x5, x6, rfl⟩, hno⟩
        have er : readLeaf z = restLeaf z := by
          unfold readLeaf
          rw [if_neg hns]
          split
          · rename_i r q; exact absurd q (hno 0 (by decide) 35 rfl r)
          · rename_i r q; exact absurd q (hno 1 (by decide) 36 rfl r)
          · rename_i r q; exact absurd q (hno 2 (by decide) 63 rfl r)
          · rfl
        rw [er] at k
        unfold restLeaf at k
        have e12 := e1.trans e2
        rw [colon_sg]
        refine ⟨_, rfl, in_sg (z := z) (Bool.false_xor _) ⟨_, rfl, ite2 (fun hc => ?_) (fun hc => ?_)⟩⟩
        · have hc := of_decide_eq_true hc
          rw [if_pos hc] at k
          obtain ⟨a, b, rfl, ha⟩ := colon_split hc
          unfold colonLeaf at k
          rw [splitMax_at ha] at k
          dsimp only at k
          have la : a.length ≤ 100000 ∧ b.length ≤ 100000 := by rw [len_app, len_app] at hz; omega
          refine ⟨_, rfl, rfl, _, ":", 1, rfl, rfl, by decide +kernel, by decide, by decide, hS, fun p np => ?_⟩
          rw [splitMax_at ha]
          have e3 := e12.trans (same_new (o := .lst (([a, b] : List Str).map V.str)) np)
          refine ⟨p, _, rfl, SqL.of upd_same, rfl, _, _, rfl, _, _, rfl, rfl, ?_⟩
          generalize upd H2 p (.lst (([a, b] : List Str).map V.str)) = H3 at e3 ⊢
          refine ⟨_, rfl, _, rfl, ⟨b, rfl, la.2, fun H4 e4 => ?_⟩⟩
          refine tup_new (K := K) (ds := [.str "count", .str a, numD b]) (.cons (.str _) (.cons (.str _) (.cons (num_dt _) .nil))) (by show 3 ≤ 1000; decide) fun v H5 e5 dv => ?_
          have e55 := e3.trans (e4.trans e5)
          obtain ⟨q, xs, rfl, hT, hD⟩ := Dt.tupI dv
          obtain ⟨v1, r1, rfl, d1, hD⟩ := hD.consI
          obtain ⟨v2, r2, rfl, d2, hD⟩ := hD.consI
          obtain ⟨v3, r3, rfl, d3, hD⟩ := hD.consI
          have ev : v3 = numV b := by
            unfold numD at d3; unfold numV
            cases en : readNum b with
            | none => rw [en] at d3; cases d3; rfl
            | some n => rw [en] at d3; exact d3.intI
          cases en : readNum b with
          | none =>
            rw [en] at k
            refine ws_val false (.and (a := false) (b := false) (fun Q' q => ⟨_, rfl, ixt (i := 2) hT rfl ⟨rfl, _, by rw [ev, non_num, en]; rfl, q _ (Same.refl _)⟩⟩) (fun z => nomatch z)) (fun H7 e7 => iteF (k _ _ (e55.trans e7) rfl))
          | some n =>
            rw [en] at k
            refine ws_val (isWord a) (.and (a := true) (b := isWord a) (fun Q' q => ⟨_, rfl, ixt (i := 2) hT rfl ⟨rfl, _, by rw [ev, non_num, en]; rfl, q _ (Same.refl _)⟩⟩) fun _ H7 e7 Q' q => ⟨_, rfl, ⟨.inl ⟨_, _, rfl, dv.same e7, short_count la.1 _, fun H8 e8 => ⟨_, by rw [node_count _ en], q _ e8⟩⟩⟩⟩) (fun H7 e7 => ite2 (fun hn => ?_) (fun hn => ?_))
            · (try simp only at k)
              rw [if_pos hn] at k
              have e1 : numD b = .int (n : Nat) := by unfold numD; rw [en]
              rw [e1] at dv
              exact ⟨_, rfl, k _ _ (e55.trans e7) (dv.same e7)⟩
            · (try simp only at k)
              rw [if_neg hn] at k
              exact k _ _ (e55.trans e7) rfl
        · have hc := of_decide_eq_false (eq_false_of_ne_true hc)
          rw [if_neg hc] at k
          refine ⟨_, rfl, ⟨_, _, rfl, .str z, fun y e => by cases e; exact hz, fun H3 e3 => ⟨isWord z, rfl, ite2 (fun hn => ?_) (fun hn => ?_)⟩⟩⟩
          · rw [if_pos hn] at k
            exact ⟨_, rfl, tup_new (K := K) (ds := [.str "name", .str z]) (.cons (.str _) (.cons (.str _) .nil)) (by show 2 ≤ 1000; decide) fun v H5 e5 dv => k v _ (e12.trans (e3.trans e5)) dv⟩
          · rw [if_neg hn] at k
            exact k _ _ (e12.trans e3) rfl
end
end RS

/-! Heads4: the terms that are being read, as a list of lists; BadText raised. -/
namespace RS
open PySem PySem.Spec PyProof.Rows L2 TL NdefX

/-! ### the reader's own answers -/
theorem Run_bad1 {w : Str} {n : Nat} {hs : List Hd4} (h1 : w ∈ opens) (h2 : ¬ w = "(let") : Run [w] n hs = .error (n + 1) := by
  unfold Run
  conv => lhs; unfold run
  rw [if_pos h1, if_neg h2]
theorem Run_bad2 {w m : Str} {ws : List Str} {n : Nat} {hs : List Hd4} (h1 : w ∈ opens) (h2 : ¬ w = "(let") (hm : ¬ m ∈ markL) : Run (w :: m :: ws) n hs = .error (n + 1) := by
  unfold Run
  conv => lhs; unfold run
  rw [if_pos h1, if_neg h2]
  dsimp only
  rw [if_neg hm]
theorem Run_none {w : Str} {ws : List Str} {n : Nat} {hs : List Hd4} (h1 : ¬ w ∈ opens) (hl : readLeaf w = none) : Run (w :: ws) n hs = .error n := by
  unfold Run
  conv => lhs; unfold run
  rw [if_neg h1, hl]
theorem closeR_nil {t : Tm} {ws : List Str} {n : Nat} : closeR t ws n [] = .ok (t, n) := by unfold closeR close; rfl
theorem closeR_bad {h : Hd4} {t : Tm} {ws : List Str} {n : Nat} {hs : List Hd4} (hk : ¬ 1 < h.need) (hw : ∀ c r, ws = c :: r → ¬ c = ")") : closeR t ws n (h :: hs) = .error n := by
  unfold closeR
  conv => lhs; unfold close
  rw [if_neg hk]
  cases ws with
  | nil => rfl
  | cons c r => dsimp only; rw [if_neg (hw c r rfl)]

/-! ### the heads -/
def okH (h : Hd4) : Prop := (h.w = "let" ∨ h.w = "pi" ∨ h.w = "fun" ∨ h.w = "app") ∧ 1 ≤ h.need
def hdV (h : Hd4) : List V := if h.w = "let" then [.str "let"] else [.str h.w, .str h.m]
def HdAt (K : PySem.W.Frag) (H : Hp) (a : Addr) (h : Hd4) : Prop := ∃ vals, H a = some (.lst (hdV h ++ vals)) ∧ DtAll K H vals (h.ps.map Tm.pd)
inductive StkAt (K : PySem.W.Frag) (H : Hp) : List Addr → List Hd4 → Prop
  | nil : StkAt K H [] []
  | cons {a as h hs} : HdAt K H a h → StkAt K H as hs → StkAt K H (a :: as) (h :: hs)
theorem StkAt.len {K : PySem.W.Frag} {H : Hp} {as : List Addr} {hs : List Hd4} (s : StkAt K H as hs) : as.length = hs.length := by
  induction s with
  | nil => rfl
  | cons _ _ ih => rw [List.length_cons, List.length_cons, ih]
theorem StkAt.held {K : PySem.W.Frag} {H : Hp} {as : List Addr} {hs : List Hd4} (s : StkAt K H as hs) : ∀ a ∈ as, ∃ o, H a = some o := by
  induction s with
  | nil => intro a h; cases h
  | cons h _ ih => intro a ha; rcases List.mem_cons.mp ha with rfl | ha; obtain ⟨_, e, _⟩ := h; exact ⟨_, e⟩; exact ih a ha
theorem StkAt.keep {K : PySem.W.Frag} {H H' : Hp} {as : List Addr} {hs : List Hd4} (s : StkAt K H as hs) (tk : TK K H H') (e : ∀ a ∈ as, ∀ o, H a = some o → H' a = some o) : StkAt K H' as hs := by
  induction s with
  | nil => exact .nil
  | cons h _ ih =>
    obtain ⟨vals, h1, h2⟩ := h
    exact .cons ⟨vals, e _ List.mem_cons_self _ h1, DtAll.keep tk _ h2⟩ (ih fun a ha => e a (List.mem_cons_of_mem _ ha))
def pwK : List (Key × V) := [(.inr "(pi", .int 3), (.inr "(fun", .int 3), (.inr "(let", .int 3), (.inr "(app", .int 3)]
theorem pw_in (w : Str) : (valV (mergeK [] pwK) (.inr w : Key)).isSome = decide (w ∈ opens) := by
  have e : mergeK [] pwK = pwK := by simp +decide [mergeK, putK, pwK]
  rw [e]
  unfold valV
  rw [Option.isSome_map, Bool.eq_iff_iff, List.find?_isSome, decide_eq_true_eq]
  simp [pwK, opens, eq_comm]
/-- the reader stands here: lh the heads' list, dp the dict of what opens -/
structure Sta (K : PySem.W.Frag) (H0 H : Hp) (lh dp : Addr) (as : List Addr) (hs : List Hd4) : Prop where
  same : Same H0 H
  hl : H lh = some (.lst (as.reverse.map V.ref))
  hd : H dp = some (.dK (mergeK [] pwK))
  nl : H0 lh = none
  nd : H0 dp = none
  ne : lh ≠ dp
  stk : StkAt K H as hs
  new : ∀ a ∈ as, H0 a = none ∧ a ≠ lh ∧ a ≠ dp
  nodup : as.Nodup
  ok : ∀ h ∈ hs, okH h
theorem Sta.keep {K : PySem.W.Frag} {H0 H H' : Hp} {lh dp : Addr} {as : List Addr} {hs : List Hd4} (s : Sta K H0 H lh dp as hs) (e : Same H H') : Sta K H0 H' lh dp as hs :=
  ⟨s.same.trans e, e _ _ s.hl, e _ _ s.hd, s.nl, s.nd, s.ne, s.stk.keep (TK.same e) fun _ _ _ q => e _ _ q, s.new, s.nodup, s.ok⟩
theorem Sta.push {K : PySem.W.Frag} {H0 H H' : Hp} {lh dp a : Addr} {as : List Addr} {hs : List Hd4} {h : Hd4} (s : Sta K H0 H lh dp as hs) (na : H a = none) (hf : H' a = some (.lst (hdV h))) (hps : h.ps = []) (hl : H' lh = some (.lst (as.reverse.map V.ref ++ [.ref a])))
    (he : ∀ b, b ≠ a → b ≠ lh → ∀ o, H b = some o → H' b = some o) (tk : TK K H H') (ok : okH h) : Sta K H0 H' lh dp (a :: as) (h :: hs) := by
  have n1 : lh ≠ a := ne_of_none s.hl na
  have n2 : dp ≠ a := ne_of_none s.hd na
  have n3 : ∀ b ∈ as, b ≠ a := fun b hb => by obtain ⟨o, e⟩ := s.stk.held b hb; exact ne_of_none e na
  refine ⟨fun b o q => he b (ne_of_none (s.same b o q) na) (ne_of_none q s.nl) o (s.same b o q), ?_, he dp n2 s.ne.symm _ s.hd, s.nl, s.nd, s.ne, .cons ⟨[], by rw [List.append_nil]; exact hf, by rw [hps]; exact .nil⟩ (s.stk.keep tk fun b hb o q => he b (n3 b hb) (s.new b hb).2.1 o q), ?_, List.nodup_cons.mpr ⟨fun q => n3 a q rfl, s.nodup⟩, ?_⟩
  · rw [hl, List.reverse_cons, List.map_append]; rfl
  · intro b hb
    rcases List.mem_cons.mp hb with rfl | hb
    · exact ⟨s.same.free na, n1.symm, n2.symm⟩
    · exact s.new b hb
  · intro x hx
    rcases List.mem_cons.mp hx with rfl | hx
    · exact ok
    · exact s.ok x hx
/-- the head on top is another one -/
theorem Sta.top {K : PySem.W.Frag} {H0 H : Hp} {lh dp a : Addr} {as : List Addr} {hs : List Hd4} {h h' : Hd4} {xs : List V} (s : Sta K H0 H lh dp (a :: as) (h :: hs)) (hf : HdAt K (upd H a (.lst xs)) a h') (ok : okH h') : Sta K H0 (upd H a (.lst xs)) lh dp (a :: as) (h' :: hs) := by
  obtain ⟨na, n1, n2⟩ := s.new a List.mem_cons_self
  have n3 := (List.nodup_cons.mp s.nodup).1
  cases s.stk with
  | cons h0 st =>
    obtain ⟨vals, e1, e2⟩ := h0
    refine ⟨fun b o q => by rw [upd_ne (ne_of_none q na)]; exact s.same b o q, by rw [upd_ne n1.symm]; exact s.hl, by rw [upd_ne n2.symm]; exact s.hd, s.nl, s.nd, s.ne, .cons hf (st.keep (TK.lst e1) fun b hb o q => by rw [upd_ne (show b ≠ a from fun z => n3 (z ▸ hb))]; exact q), s.new, s.nodup, fun x hx => ?_⟩
    rcases List.mem_cons.mp hx with rfl | hx
    · exact ok
    · exact s.ok x (List.mem_cons_of_mem _ hx)
/-- the head on top is closed -/
theorem Sta.pop {K : PySem.W.Frag} {H0 H : Hp} {lh dp a : Addr} {as : List Addr} {hs : List Hd4} {h : Hd4} {xs : List V} (s : Sta K H0 H lh dp (a :: as) (h :: hs)) : Sta K H0 (upd (upd H a (.lst xs)) lh (.lst (as.reverse.map V.ref))) lh dp as hs := by
  obtain ⟨na, n1, n2⟩ := s.new a List.mem_cons_self
  have n3 := (List.nodup_cons.mp s.nodup).1
  cases s.stk with
  | cons h0 st =>
    obtain ⟨vals, e1, e2⟩ := h0
    have e9 : upd H a (.lst xs) lh = some (.lst ((a :: as).reverse.map V.ref)) := by rw [upd_ne n1.symm]; exact s.hl
    refine ⟨fun b o q => by rw [upd_ne (ne_of_none q s.nl), upd_ne (ne_of_none q na)]; exact s.same b o q, upd_same, by rw [upd_ne s.ne.symm, upd_ne n2.symm]; exact s.hd, s.nl, s.nd, s.ne, st.keep ((TK.lst e1).trans (TK.lst e9)) fun b hb o q => by rw [upd_ne (s.new b (List.mem_cons_of_mem _ hb)).2.1, upd_ne (show b ≠ a from fun z => n3 (z ▸ hb))]; exact q, fun b hb => s.new b (List.mem_cons_of_mem _ hb), (List.nodup_cons.mp s.nodup).2, fun x hx => s.ok x (List.mem_cons_of_mem _ hx)⟩
theorem need_len {h : Hd4} (ok : okH h) : (hdV h ++ ([] : List V)).length + h.ps.length + 1 < 4 ↔ 1 < h.need := by
  obtain ⟨_, o2⟩ := ok
  unfold Hd4.need at *
  unfold hdV
  by_cases e : h.w = "let"
  · rw [if_pos e] at o2; rw [if_pos e, if_pos e]; simp; omega
  · rw [if_neg e] at o2; rw [if_neg e, if_neg e]; simp; omega

/-! ### BadText -/
theorem raise_at {CT : Addr} {n : Int} {H : Hp} {Q : XK} (k : ∀ d H', Same H H' → H d = none → H' d = some (.xd [("at", .int n)]) → Q (.ref CT) (some d) H') :
    ([V.int n] : List V).length ≤ 1000 ∧ ∀ a, H a = none → spIni CT (fs1 "at") 1 (.ref a :: ([V.int n] ++ [])) (upd H a (exo a CT none)) (fun v H2 => v = .non ∧ ∃ (d : Addr) (fs : List (Str × V)), H2 a = some (exo a CT (some d)) ∧ H2 d = some (exd d fs) ∧ H d = none ∧ Q (.ref CT) (some d) (upd (del H2 a) d (.xd fs))) (fun _ _ _ => False) := by
  refine ⟨Nat.le_add_left 1 999, fun a na => ⟨⟨a, [.int n], rfl, rfl, upd_same, fun d H' nd ne h1 h2 he => ⟨rfl, d, _, h1, h2, ?_, k d _ ?_ ?_ upd_same⟩⟩⟩⟩
  · rw [upd_ne ne] at nd; exact nd
  · intro b o q
    rw [upd_ne ne] at nd
    have nb : b ≠ a := ne_of_none q na
    rw [upd_ne (ne_of_none q nd), del_ne nb]
    exact he b o nb (by rw [upd_ne nb]; exact q)
  · rw [upd_ne ne] at nd; exact nd
end RS

/-! ReadW4: read_words. -/
namespace RS
open PySem PySem.Spec PyProof.Rows L2 TL NdefX

structure rRW (K : PySem.W.Frag) (CT : Addr) (vs : List V) (H : Hp) (Q : VK) (E : XK) : Prop where
  ex : ∃ (lw : Addr) (ws : List Str), vs = [.ref lw, .int 0] ∧ H lw = some (.lst (ws.map V.str)) ∧ ws.length ≤ 10000 ∧ (∀ z ∈ ws, z.length ≤ 100000) ∧
    match Run ws 0 [] with
    | .ok (t, n) => ∀ v H', Same H H' → Dt K H' v (.tuple [t.pd, .int (n : Nat)]) → Q v H'
    | .error k => ∀ d H', Same H H' → H d = none → H' d = some (.xd [("at", .int (k : Nat))]) → E (.ref CT) (some d) H'
def spRW (K : PySem.W.Frag) (CT : Addr) : Sp := fun vs H Q E => rRW K CT vs H Q E
theorem lenW {K : PySem.W.Frag} {lw : Addr} {ws : List Str} {H : Hp} (h : H lw = some (.lst (ws.map V.str))) : LenV K (.ref lw) H ws.length := .inl ⟨_, SqL.of h, by simp⟩
theorem drop_at {ws : List Str} {n : Nat} (h : n < ws.length) : ws.drop n = ws[n] :: ws.drop (n + 1) := List.drop_eq_getElem_cons h
theorem wat {ws : List Str} {n : Nat} (h : n < ws.length) : (ws.map V.str)[n]? = some (.str ws[n]) := by rw [List.getElem?_map, List.getElem?_eq_getElem h]; rfl
theorem last_ref {as : List Addr} {a : Addr} : atI ((a :: as).reverse.map V.ref) (-1) = some (.ref a) := by
  rw [List.reverse_cons, List.map_append]; exact atI_last _ _
theorem open_ok {w : Str} (h : w ∈ opens) (m : Str) : okH ⟨cutS w (some (1 : Nat)) none, m, []⟩ := by
  have : ∀ x : Str, (x = "let" ∨ x = "pi" ∨ x = "fun" ∨ x = "app") → okH ⟨x, m, []⟩ := fun x hx => ⟨hx, by unfold Hd4.need; dsimp only; split <;> decide⟩
  simp only [opens, List.mem_cons, List.not_mem_nil, or_false] at h
  rcases h with rfl | rfl | rfl | rfl
  · exact this _ (.inr (.inl (by decide +kernel)))
  · exact this _ (.inr (.inr (.inl (by decide +kernel))))
  · exact this _ (.inl (by decide +kernel))
  · exact this _ (.inr (.inr (.inr (by decide +kernel))))
theorem open_nlet {w : Str} (h : w ∈ opens) (hl : ¬ w = "(let") : ¬ cutS w (some (1 : Nat)) none = "let" := by
  simp only [opens, List.mem_cons, List.not_mem_nil, or_false] at h
  rcases h with rfl | rfl | rfl | rfl
  · decide +kernel
  · decide +kernel
  · exact absurd rfl hl
  · decide +kernel
theorem done_cases {K : PySem.W.Frag} {H : Hp} {h : Hd4} {vals : List V} (ok : okH h) (hk : ¬ 1 < h.need) (hA : DtAll K H vals (h.ps.map Tm.pd)) :
    (h.w = "let" ∧ ∃ p1 p2 v1 v2, vals = [v1, v2] ∧ Dt K H v1 p1.pd ∧ Dt K H v2 p2.pd ∧ ∀ t, (h.push t).done = .letT p1 p2 t) ∨ (h.w = "app" ∧ ∃ p1 v1, vals = [v1] ∧ Dt K H v1 p1.pd ∧ ∀ t, (h.push t).done = .app p1 h.m t) ∨
    ((h.w = "pi" ∨ h.w = "fun") ∧ ∃ p1 v1, vals = [v1] ∧ Dt K H v1 p1.pd ∧ ∀ t, (h.push t).done = .bin h.w h.m p1 t) := by
  obtain ⟨hw, hn⟩ := ok
  unfold Hd4.need at hk hn
  have one : ¬ h.w = "let" → ∃ p1 v1, h.ps = [p1] ∧ vals = [v1] ∧ Dt K H v1 p1.pd := fun hl => by
    rw [if_neg hl] at hk hn
    match e : h.ps, (show h.ps.length = 1 by omega) with
    | [p1], _ =>
      rw [e] at hA
      obtain ⟨v1, r, rfl, d, hA⟩ := hA.consI
      obtain rfl := hA.nilI
      exact ⟨p1, v1, rfl, rfl, d⟩
  rcases hw with hw | hw | hw | hw
  · rw [if_pos hw] at hk hn
    match e : h.ps, (show h.ps.length = 2 by omega) with
    | [p1, p2], _ =>
      rw [e] at hA
      obtain ⟨v1, r, rfl, d, hA⟩ := hA.consI
      obtain ⟨v2, r, rfl, d2, hA⟩ := hA.consI
      obtain rfl := hA.nilI
      exact .inl ⟨hw, p1, p2, v1, v2, rfl, d, d2, fun t => by unfold Hd4.done Hd4.push; dsimp only; rw [if_pos hw, e]; rfl⟩
  · have hl : ¬ h.w = "let" := by rw [hw]; exact nle1
    obtain ⟨p1, v1, e, ev, d⟩ := one hl
    exact .inr (.inr ⟨.inl hw, p1, v1, ev, d, fun t => by unfold Hd4.done Hd4.push; dsimp only; rw [if_neg hl, if_neg (by rw [hw]; exact npa), e]; rfl⟩)
  · have hl : ¬ h.w = "let" := by rw [hw]; exact nle2
    obtain ⟨p1, v1, e, ev, d⟩ := one hl
    exact .inr (.inr ⟨.inr hw, p1, v1, ev, d, fun t => by unfold Hd4.done Hd4.push; dsimp only; rw [if_neg hl, if_neg (by rw [hw]; exact nfa), e]; rfl⟩)
  · have hl : ¬ h.w = "let" := by rw [hw]; exact nle3
    obtain ⟨p1, v1, e, ev, d⟩ := one hl
    exact .inr (.inl ⟨hw, p1, v1, ev, d, fun t => by unfold Hd4.done Hd4.push; dsimp only; rw [if_neg hl, if_pos hw, e]; rfl⟩)
theorem dt_ne {K : PySem.W.Frag} {H : Hp} {v : V} {t : Tm} (h : Dt K H v t.pd) : ¬ v = .non := fun e => by
  obtain ⟨p, xs, e2, _⟩ := dt_word h
  rw [e] at e2; cases e2
theorem hdV_len (h : Hd4) : (hdV h).length ≤ 2 := by unfold hdV; split; exact Nat.le_succ 1; exact Nat.le_refl 2
section
variable {P : Program} {w : World} {K : PySem.W.Frag} {mg : Str → Option Value} {base : Heap}
theorem sc_read_words : FnScope ["words", "at", "parts_wanted", "heads", "word", "found", "parts"] ["words", "at"] (defScope s_read_words) := ⟨rfl, rfl, rfl, by decide +kernel, rfl, by decide +kernel, by decide +kernel⟩
theorem ok_read_words {f CT : Addr} {fd : FuncData} (F : Fun K "read_words" "read_words" s_read_words f fd) (n_len : mg "len" = none) (n_tuple : mg "tuple" = none) (Mv_BadText : MkX P w K mg base "BadText" CT 1 ["self", "at"] (spIni CT (fs1 "at") 1) ["at"] [0])
    (Dis_mark : Df P w K mg base "is_mark" 1 ["value"] (spMark K)) (Dread_leaf : Df P w K mg base "read_leaf" 4 ["word"] (spRL K)) : FnOk P w K mg base (L2N.CX P w) 5 f fd ["words", "at"] (spRW K CT) := by
  refine Fun.okN F sc_read_words (fun vs H Q E h => ?_) (fun cdv A outer s H vs Q E hr h => ?_)
  · obtain ⟨lw, ws, rfl, _⟩ := h.ex; rfl
  · obtain ⟨lw, ws, rfl, hlw, hn, hz, hk⟩ := h.ex
    clear h
    have nd := sc_read_words.nd
    refine ⟨_, (pss_cons (ps_par (i := 2) (j := 3) rfl nd rfl rfl (by decide) rfl rfl (pa_cons (pe_disp (pps_cons pe_str pe_int (pps_cons pe_str pe_int (pps_cons pe_str pe_int (pps_cons pe_str pe_int pps_nil)))) (by rfl) (by rfl) (fun z => by cases z) (by decide)) (pa_cons (pe_lstN pa_nil) pa_nil)) rfl)
      (pss_one (ps_while (passes_of rfl) (pt_val pe_bl)
        (pss_cons (ps_if (pt_cmpR op_ge (pv 1) (pe_callB uLen (by rfl) n_len (by decide +kernel) (pa_cons (pv 0) pa_nil)) (nomark _))
          (pss_one (L2N.ps_raise rfl (L2N.takes_of rfl rfl rfl rfl) (pmkN_mkX Mv_BadText hr (by omega) (pa_cons (pv 1) pa_nil))))
          pss_nil)
        (pss_cons (ps_set (i := 4) nd rfl (Or.inl rfl) (pe_ix ix_seq (pv 0) (pv 1) (fun _ _ => rfl)))
        (pss_cons (ps_if (pt_cmp (pc_din (hu_of hr) (pv 4) (pv 2)))
          (pss_cons (ps_expr (pe_bm PySem.F.plainAttrs_list PySem.F.slot_list_append PySem.F.type_list_append mt_append (pv 3) (pa_cons (pe_lstN (pa_cons (pe_slice uSl (pv 4) (po_some pe_int) po_none) pa_nil)) pa_nil)))
          (pss_cons (ps_set (i := 1) nd rfl (Or.inl rfl) (pe_op uAdd (pv 1) pe_int))
          (pss_cons (ps_join (ps_if (pt_cmpR (uNe hr.units) (pv 4) pe_str (nomark _))
            (pss_cons (ps_if (pt_w (PW.pt (pw_or (pt_cmpR op_ge (pv 1) (pe_callB uLen (by rfl) n_len (by decide +kernel) (pa_cons (pv 0) pa_nil)) (nomark _)) (pw_or1 (pt_not (pt_val (pe_df Dis_mark hr (by omega) (pa_cons (pe_ix ix_seq (pv 0) (pv 1) (fun _ _ => rfl)) pa_nil))))))))
              (pss_one (L2N.ps_raise rfl (L2N.takes_of rfl rfl rfl rfl) (pmkN_mkX Mv_BadText hr (by omega) (pa_cons (pv 1) pa_nil))))
              pss_nil)
            (pss_cons (ps_expr (pe_bm PySem.F.plainAttrs_list PySem.F.slot_list_append PySem.F.type_list_append mt_append (pe_ix ix_seq (pv 3) (pe_un un_neg pe_int) (fun _ _ => rfl)) (pa_cons (pe_ix ix_seq (pv 0) (pv 1) (fun _ _ => rfl)) pa_nil)))
            (pss_one (ps_set (i := 1) nd rfl (Or.inl rfl) (pe_op uAdd (pv 1) pe_int)))))
            pss_nil))
          (pss_one ps_continue))))
          pss_nil)
        (pss_cons (ps_set (i := 5) nd rfl (Or.inl rfl) (pe_df Dread_leaf hr (by omega) (pa_cons (pv 4) pa_nil)))
        (pss_cons (ps_if (pt_cmpR op_isN (pv 5) pe_non (nomark _))
          (pss_one (L2N.ps_raise rfl (L2N.takes_of rfl rfl rfl rfl) (pmkN_mkX Mv_BadText hr (by omega) (pa_cons (pv 1) pa_nil))))
          pss_nil)
        (pss_cons (ps_set (i := 1) nd rfl (Or.inl rfl) (pe_op uAdd (pv 1) pe_int))
        (pss_cons (ps_while (passes_of rfl) (pt_cmpR (uNe hr.units) (pv 3) (pe_lstN pa_nil) (nomark _))
          (pss_cons (ps_expr (pe_bm PySem.F.plainAttrs_list PySem.F.slot_list_append PySem.F.type_list_append mt_append (pe_ix ix_seq (pv 3) (pe_un un_neg pe_int) (fun _ _ => rfl)) (pa_cons (pv 5) pa_nil)))
          (pss_cons (ps_if (pt_cmpR op_lt (pe_callB uLen (by rfl) n_len (by decide +kernel) (pa_cons (pe_ix ix_seq (pv 3) (pe_un un_neg pe_int) (fun _ _ => rfl)) pa_nil)) pe_int (nomark _))
            (pss_one ps_break)
            pss_nil)
          (pss_cons (ps_if (pt_w (PW.pt (pw_or (pt_cmpR op_ge (pv 1) (pe_callB uLen (by rfl) n_len (by decide +kernel) (pa_cons (pv 0) pa_nil)) (nomark _)) (pw_or1 (pt_cmpR (uNe hr.units) (pe_ix ix_seq (pv 0) (pv 1) (fun _ _ => rfl)) pe_str (nomark _))))))
            (pss_one (L2N.ps_raise rfl (L2N.takes_of rfl rfl rfl rfl) (pmkN_mkX Mv_BadText hr (by omega) (pa_cons (pv 1) pa_nil))))
            pss_nil)
          (pss_cons (ps_par (i := 1) (j := 6) rfl nd rfl rfl (by decide) rfl rfl (pa_cons (pe_op uAdd (pv 1) pe_int) (pa_cons (pe_bm0 PySem.F.plainAttrs_list PySem.F.slot_list_pop PySem.F.type_list_pop mt_pop (pv 3)) pa_nil)) rfl)
          (pss_one (ps_set (i := 5) nd rfl (Or.inl rfl) (pe_ifExp (pt_cmpR (uEq hr.units) (pe_ix ix_seq (pv 6) pe_int (fun _ _ => rfl)) pe_str (nomark _)) (pe_tupN (pa_cons pe_str (pa_cons (pe_ix ix_seq (pv 6) pe_int (fun _ _ => rfl)) (pa_cons (pe_ix ix_seq (pv 6) pe_int (fun _ _ => rfl)) (pa_cons (pe_ix ix_seq (pv 6) pe_int (fun _ _ => rfl)) pa_nil))))) (pe_callTy call_tuple_of (by rfl) n_tuple (by decide +kernel) (pa_cons (pv 6) pa_nil))))))))))
        (pss_one (ps_if (pt_cmpR (uEq hr.units) (pv 3) (pe_lstN pa_nil) (nomark _))
          (pss_one (ps_ret (pe_tupN (pa_cons (pv 5) (pa_cons (pv 1) pa_nil)))))
          pss_nil)))))))))))), ?_⟩
    obtain ⟨R, hR⟩ : ∃ R, R = Run ws 0 [] := ⟨_, rfl⟩
    rw [← hR] at hk
    refine fun dp ndp => ⟨upd_same, pwK, rfl, by decide, lst_new (Nat.zero_le _) fun lh nlh => ⟨_, _, rfl, ?_⟩⟩
    have hd0 : upd (upd (upd H dp (.dK [])) dp (.dK (mergeK [] pwK))) lh (.lst []) dp = some (.dK (mergeK [] pwK)) := by
      rw [upd_ne (ne_of_none upd_same nlh), upd_same]
    have ne : lh ≠ dp := fun z => by rw [z, upd_same] at nlh; cases nlh
    have nl : H lh = none := by rw [upd_ne ne, upd_ne ne] at nlh; exact nlh
    have S0 : Sta K H (upd (upd (upd H dp (.dK [])) dp (.dK (mergeK [] pwK))) lh (.lst [])) lh dp [] [] :=
      ⟨fun b o q => by rw [upd_ne (ne_of_none q nl), upd_ne (ne_of_none q ndp), upd_ne (ne_of_none q ndp)]; exact q, upd_same, hd0, nl, ndp, ne, .nil, (fun _ h => by cases h), List.nodup_nil, (fun _ h => by cases h)⟩
    generalize upd (upd (upd H dp (.dK [])) dp (.dK (mergeK [] pwK))) lh (.lst []) = H1 at S0 ⊢
    clear hd0 nlh
    have eE : ∀ k, R = .error k → ∀ d H', Same H H' → H d = none → H' d = some (.xd [("at", .int (k : Nat))]) → E (.ref CT) (some d) H' := fun k e => by rw [e] at hk; exact hk
    have eQ : ∀ t n, R = .ok (t, n) → ∀ v H', Same H H' → Dt K H' v (.tuple [t.pd, .int (n : Nat)]) → Q v H' := fun t n e => by rw [e] at hk; exact hk
    clear hk
    refine ⟨fun m σ H2 => ∃ (n : Nat) (as : List Addr) (hs : List Hd4) (x4 x5 x6 : Option V), σ = [some (.ref lw), some (.int n), some (.ref dp), some (.ref lh), x4, x5, x6] ∧ Sta K H H2 lh dp as hs ∧ n ≤ ws.length ∧ hs.length ≤ n ∧ Run (ws.drop n) n hs = R ∧ m = ws.length - n, ⟨_, 0, [], [], none, none, none, rfl, S0, Nat.zero_le _, Nat.zero_le _, by rw [hR]; rfl, rfl⟩, ?_⟩
    rintro m σ H2 ⟨n, as, hs, x4, x5, x6, rfl, S, hnl, hsl, hrun, rfl⟩
    refine ⟨_, rfl, iteT ⟨_, fun _ _ h => h, ?_⟩⟩
    have hw2 := S.same _ _ hlw
    refine ⟨_, rfl, _, rfl, _, ws.length, rfl, lenW hw2, _, _, rfl, rfl, _, rfl, ite2 (fun hge => ?_) (fun hge => ?_)⟩
    · have hge := of_decide_eq_true hge
      have e0 : ws.drop n = [] := List.drop_eq_nil_of_le (by omega)
      rw [e0, Run_nil] at hrun
      exact ⟨_, rfl, raise_at fun d H' e nd hd => eE n hrun.symm d H' (S.same.trans e) (S.same.free nd) hd⟩
    · have hlt : n < ws.length := by have := of_decide_eq_false (eq_false_of_ne_true hge); omega
      obtain ⟨wd, hwd⟩ : ∃ wd, wd = ws[n] := ⟨_, rfl⟩
      have hdr := drop_at hlt
      have hat := wat hlt
      rw [← hwd] at hdr hat
      have hzw : wd.length ≤ 100000 := hz wd (by rw [hwd]; exact List.getElem_mem hlt)
      refine ⟨_, rfl, _, rfl, .inl ⟨lw, _, _, _, rfl, rfl, SqL.of hw2, atI_nat hat, ?_⟩⟩
      refine ⟨_, rfl, _, rfl, dp, _, rfl, DGet.k (k := .inr wd) S.hd, ⟨_, rfl, ?_⟩⟩
      rw [pw_in]
      refine ite2 (fun hop => ?_) (fun hop => ?_)
      · have hop := of_decide_eq_true hop
        refine ⟨_, rfl, .inl ⟨rfl, _, SqL.of S.hl⟩, _, rfl, ⟨((1 : Nat) : Int), rfl, sl_s hzw (lst_new (xs := [.str (cutS wd (some (1 : Nat)) none)]) (Nat.le_add_left 1 999) fun a na => ?_)⟩⟩
        have n1 : lh ≠ a := ne_of_none S.hl na
        have n2 : dp ≠ a := ne_of_none S.hd na
        refine ⟨lh, _, .ref a, rfl, rfl, (upd_ne n1).trans S.hl, by rw [List.length_map, List.length_reverse, S.stk.len, sizeLine_eq]; omega, ?_⟩
        have h3l : upd H2 a (.lst [.str (cutS wd (some (1 : Nat)) none)]) lh = some (.lst (as.reverse.map V.ref)) := (upd_ne n1).trans S.hl
        have tk4 : TK K H2 (upd (upd H2 a (.lst [.str (cutS wd (some (1 : Nat)) none)])) lh (.lst (as.reverse.map V.ref ++ [.ref a]))) := (TK.new na).trans (TK.lst h3l)
        have h4l : upd (upd H2 a (.lst [.str (cutS wd (some (1 : Nat)) none)])) lh (.lst (as.reverse.map V.ref ++ [.ref a])) lh = some (.lst (as.reverse.map V.ref ++ [.ref a])) := upd_same
        have h4a : upd (upd H2 a (.lst [.str (cutS wd (some (1 : Nat)) none)])) lh (.lst (as.reverse.map V.ref ++ [.ref a])) a = some (.lst [.str (cutS wd (some (1 : Nat)) none)]) := by rw [upd_ne n1.symm, upd_same]
        have h4o : ∀ b, b ≠ a → b ≠ lh → ∀ o, H2 b = some o → upd (upd H2 a (.lst [.str (cutS wd (some (1 : Nat)) none)])) lh (.lst (as.reverse.map V.ref ++ [.ref a])) b = some o := fun b hb1 hb2 o q => by rw [upd_ne hb2, upd_ne hb1]; exact q
        have n4 : lw ≠ lh := ne_of_none hlw S.nl
        have n5 : lw ≠ a := ne_of_none hw2 na
        have h4w := h4o lw n5 n4 _ hw2
        generalize upd (upd H2 a (.lst [.str (cutS wd (some (1 : Nat)) none)])) lh (.lst (as.reverse.map V.ref ++ [.ref a])) = H4 at tk4 h4l h4a h4o h4w ⊢
        refine ⟨_, rfl, add_i ?_⟩
        refine ⟨fun σ H' => ∃ (n' : Nat) (as' : List Addr) (hs' : List Hd4) (x5 x6 : Option V), σ = [some (.ref lw), some (.int n'), some (.ref dp), some (.ref lh), some (.str wd), x5, x6] ∧ Sta K H H' lh dp as' hs' ∧ n < n' ∧ n' ≤ ws.length ∧ hs'.length ≤ n' ∧ Run (ws.drop n') n' hs' = R, ?_, ?_⟩
        · refine ⟨_, rfl, eq_str (b := !decide (wd = "(let")) (Bool.true_xor _) ⟨_, rfl, ite2 (fun hlet => ?_) (fun hlet => ?_)⟩⟩
          · have hlet : ¬ wd = "(let" := by simpa using hlet
            have hcl := open_nlet hop hlet
            by_cases hn1 : n + 1 < ws.length
            · obtain ⟨md, hmd⟩ : ∃ md, md = ws[n + 1] := ⟨_, rfl⟩
              have hdr1 := drop_at hn1
              have hat1 := wat hn1
              rw [← hmd] at hdr1 hat1
              rw [hdr, hdr1] at hrun
              refine w_val (!decide (md ∈ markL)) (.or (a := false) (b := !decide (md ∈ markL)) (fun Q' q => ⟨_, rfl, _, rfl, _, ws.length, rfl, lenW h4w, _, _, rfl, rfl, _, rfl, by rw [decide_eq_false (by omega)]; exact q⟩) fun _ Q' q => ⟨_, rfl, _, rfl, .inl ⟨lw, _, _, _, rfl, rfl, SqL.of h4w, atI_nat hat1, ⟨_, .str md, rfl, .str md, ⟨_, rfl, q⟩⟩⟩⟩) (ite2 (fun hm => ?_) (fun hm => ?_))
              · have hm : ¬ md ∈ markL := by simpa using hm
                rw [Run_bad2 hop hlet hm] at hrun
                have e4 : Same H H4 := fun b o q => h4o b (ne_of_none (S.same b o q) na) (ne_of_none q S.nl) o (S.same b o q)
                exact ⟨_, rfl, raise_at fun d H' e nd hd => eE (n + 1) hrun.symm d H' (e4.trans e) (e4.free nd) hd⟩
              · have hm : md ∈ markL := by simpa using hm
                rw [Run_open hop hlet hm] at hrun
                refine ⟨_, rfl, _, rfl, .inl ⟨lh, _, _, _, rfl, rfl, SqL.of h4l, atI_last _ _, ?_⟩⟩
                refine ⟨.inl ⟨rfl, _, SqL.of h4a⟩, _, rfl, _, rfl, .inl ⟨lw, _, _, _, rfl, rfl, SqL.of h4w, atI_nat hat1, ?_⟩⟩
                refine ⟨a, _, _, rfl, rfl, h4a, lt_line (Nat.le_add_left 1 999), ?_⟩
                refine ⟨_, rfl, add_i ?_⟩
                refine ⟨n + 2, a :: as, ⟨cutS wd (some (1 : Nat)) none, md, []⟩ :: hs, _, _, rfl, ?_, by omega, by omega, by rw [List.length_cons]; omega, hrun⟩
                refine S.push na (by rw [upd_same]; unfold hdV; rw [if_neg hcl]; rfl) rfl (by rw [upd_ne n1]; exact h4l) (fun b hb1 hb2 o q => by rw [upd_ne hb1]; exact h4o b hb1 hb2 o q) (tk4.trans (TK.lst h4a)) (open_ok hop md)
            · have e0 : ws.drop (n + 1) = [] := List.drop_eq_nil_of_le (by omega)
              rw [hdr, e0, Run_bad1 hop hlet] at hrun
              have e4 : Same H H4 := fun b o q => h4o b (ne_of_none (S.same b o q) na) (ne_of_none q S.nl) o (S.same b o q)
              refine w_val true (.or (a := true) (b := false) (fun Q' q => ⟨_, rfl, _, rfl, _, ws.length, rfl, lenW h4w, _, _, rfl, rfl, _, rfl, by rw [decide_eq_true (by omega)]; exact q⟩) (fun z => nomatch z)) (iteT ?_)
              exact ⟨_, rfl, raise_at fun d H' e nd hd => eE (n + 1) hrun.symm d H' (e4.trans e) (e4.free nd) hd⟩
          · have hlet : wd = "(let" := by simpa using hlet
            have hrun2 := hrun
            rw [hdr, hlet, Run_let] at hrun2
            have hc : cutS wd (some (1 : Nat)) none = "let" := by rw [hlet]; decide +kernel
            refine ⟨n + 1, a :: as, ⟨"let", "", []⟩ :: hs, _, _, rfl, ?_, by omega, by omega, by rw [List.length_cons]; omega, hrun2⟩
            refine S.push na (by rw [h4a, hc]; unfold hdV; rw [if_pos rfl]) rfl h4l h4o tk4 ?_
            have := open_ok hop ""
            rw [hc] at this
            exact this
        · rintro σ H5 ⟨n', as', hs', x5, x6, rfl, S', hn', hnl', hsl', hrun'⟩
          exact ⟨ws.length - n', by omega, n', as', hs', _, _, _, rfl, S', hnl', hsl', hrun', rfl⟩
      · have hop := of_decide_eq_false (eq_false_of_ne_true hop)
        rw [hdr] at hrun
        refine ⟨_, rfl, ⟨wd, rfl, hzw, fun v H3 e3 hv => ?_⟩⟩
        have S := S.keep e3
        cases hl : readLeaf wd with
        | none =>
          rw [hl] at hv
          rw [Run_none hop hl] at hrun
          subst hv
          refine ⟨_, rfl, rfl, _, rfl, ite2 (fun _ => ?_) (fun hc => absurd (decide_eq_true (rfl : V.non = V.non)) hc)⟩
          exact ⟨_, rfl, raise_at fun d H' e nd hd => eE n hrun.symm d H' (S.same.trans e) (S.same.free nd) hd⟩
        | some t =>
          rw [hl] at hv
          have hv : Dt K H3 v t.pd := hv
          rw [Run_leaf hop hl] at hrun
          refine ⟨_, rfl, rfl, _, rfl, ite2 (fun hc => absurd (of_decide_eq_true hc) (dt_ne hv)) (fun _ => ?_)⟩
          refine ⟨_, rfl, add_i ?_⟩
          refine ⟨fun m2 σ H4 => ∃ (n2 : Nat) (t : Tm) (v : V) (as : List Addr) (hs : List Hd4) (x6 : Option V), σ = [some (.ref lw), some (.int n2), some (.ref dp), some (.ref lh), some (.str wd), some v, x6] ∧ Sta K H H4 lh dp as hs ∧ n < n2 ∧ n2 ≤ ws.length ∧ hs.length ≤ n2 ∧ Dt K H4 v t.pd ∧ closeR t (ws.drop n2) n2 hs = R ∧ m2 = hs.length,
            ⟨_, n + 1, t, v, as, hs, _, rfl, S, by omega, by omega, by omega, hv, hrun, rfl⟩, ?_⟩
          clear hv hrun hl hdr hat e3 S hw2
          rintro m2 σ H4 ⟨n2, t, v, as, hs, x6', rfl, S, h1, h2, h3, hv, hcl, rfl⟩
          refine ⟨_, rfl, lst_new (Nat.zero_le _) fun q nq => eq_n (SqL.of ((upd_ne (ne_of_none S.hl nq)).trans S.hl)) (SqL.of upd_same) (b := !as.isEmpty) (by rw [Bool.true_xor]; cases as <;> simp) ⟨_, rfl, ?_⟩⟩
          replace hv := hv.same (same_new (o := .lst []) nq)
          replace S := S.keep (same_new (o := .lst []) nq)
          generalize upd H4 q (.lst []) = H5 at S hv ⊢
          clear nq
          have hst := S.stk
          cases hst with
          | nil =>
            rw [closeR_nil] at hcl
            refine iteF ?_
            refine ⟨_, rfl, lst_new (Nat.zero_le _) fun q nq => eq_n (SqL.of ((upd_ne (ne_of_none S.hl nq)).trans S.hl)) (SqL.of upd_same) (b := true) rfl ⟨_, rfl, iteT ?_⟩⟩
            exact ⟨_, rfl, _, rfl, tup_new (K := K) (ds := [t.pd, .int (n2 : Nat)]) (.cons (hv.same (same_new nq)) (.cons (.int _) .nil)) (by show 2 ≤ 1000; decide) fun v' H6 e6 dv => eQ t n2 hcl.symm v' H6 ((S.same.trans (same_new nq)).trans e6) dv⟩
          | @cons a as h hs hda hst =>
            refine iteT ⟨_, fun _ _ h => h, ?_⟩
            obtain ⟨vals, h5a, hA⟩ := hda
            obtain ⟨na, na1, na2⟩ := S.new a List.mem_cons_self
            have ok := S.ok h List.mem_cons_self
            have lv : vals.length = h.ps.length := by have := hA.length; rw [List.length_map] at this; exact this
            have lp : h.ps.length ≤ 2 := by have := ok.2; unfold Hd4.need at this; split at this <;> omega
            have l2 := hdV_len h
            have lx : (hdV h ++ vals).length ≤ 1000 := by rw [List.length_append]; omega
            refine ⟨_, rfl, _, rfl, .inl ⟨lh, _, _, _, rfl, rfl, SqL.of S.hl, last_ref, ?_⟩⟩
            refine ⟨.inl ⟨rfl, _, SqL.of h5a⟩, _, rfl, a, _, _, rfl, rfl, h5a, lt_line lx, ?_⟩
            have h6l : upd H5 a (.lst ((hdV h ++ vals) ++ [v])) lh = some (.lst ((a :: as).reverse.map V.ref)) := (upd_ne na1.symm).trans S.hl
            have h6a : upd H5 a (.lst ((hdV h ++ vals) ++ [v])) a = some (.lst ((hdV h ++ vals) ++ [v])) := upd_same
            have tk6 : TK K H5 (upd H5 a (.lst ((hdV h ++ vals) ++ [v]))) := TK.lst h5a
            have e6 : Same H (upd H5 a (.lst ((hdV h ++ vals) ++ [v]))) := fun b o q => by rw [upd_ne (ne_of_none q na)]; exact S.same b o q
            have hw6 := e6 _ _ hlw
            refine ⟨_, rfl, _, rfl, .inl ⟨lh, _, _, _, rfl, rfl, SqL.of h6l, last_ref, ⟨_, ((hdV h ++ vals) ++ [v]).length, rfl, .inl ⟨_, SqL.of h6a, rfl⟩, _, _, rfl, rfl, _, rfl, ?_⟩⟩⟩
            have hlen : ((((hdV h ++ vals) ++ [v]).length : Nat) : Int) < 4 ↔ 1 < h.need := by
              rw [← need_len ok, List.length_append, List.length_append, List.length_append, lv]
              simp only [List.length_cons, List.length_nil]
              omega
            refine ite2 (fun hc => ?_) (fun hc => ?_)
            · have hk := hlen.mp (of_decide_eq_true hc)
              rw [closeR_more hk] at hcl
              have S6 : Sta K H (upd H5 a (.lst ((hdV h ++ vals) ++ [v]))) lh dp (a :: as) (h.push t :: hs) := S.top ⟨vals ++ [v], by rw [upd_same, List.append_assoc]; rfl, by
                show DtAll K _ _ ((h.ps ++ [t]).map Tm.pd)
                rw [List.map_append]
                exact (DtAll.keep tk6 _ hA).append (.cons (Dt.keep tk6 _ hv) .nil)⟩ ⟨ok.1, by rw [need_push]; omega⟩
              refine ⟨_, rfl, lst_new (Nat.zero_le _) fun q nq => eq_n (SqL.of ((upd_ne (ne_of_none h6l nq)).trans h6l)) (SqL.of upd_same) (b := false) (by rw [Bool.false_xor]; simp) ⟨_, rfl, iteF ?_⟩⟩
              exact ⟨ws.length - n2, by omega, n2, _, _, _, _, _, rfl, S6.keep (same_new nq), h2, h3, hcl, rfl⟩
            · have hk : ¬ 1 < h.need := fun z => hc (decide_eq_true (hlen.mpr z))
              by_cases hlt2 : n2 < ws.length
              · obtain ⟨cd, hcd⟩ : ∃ cd, cd = ws[n2] := ⟨_, rfl⟩
                have hdr := drop_at hlt2
                have hat := wat hlt2
                rw [← hcd] at hdr hat
                rw [hdr] at hcl
                refine w_val (!decide (cd = ")")) (.or (a := false) (b := !decide (cd = ")")) (fun Q' q => ⟨_, rfl, _, rfl, _, ws.length, rfl, lenW hw6, _, _, rfl, rfl, _, rfl, by rw [decide_eq_false (by omega)]; exact q⟩) fun _ Q' q => ⟨_, rfl, _, rfl, .inl ⟨lw, _, _, _, rfl, rfl, SqL.of hw6, atI_nat hat, eq_str (Bool.true_xor _) ⟨_, rfl, q⟩⟩⟩) (ite2 (fun hm => ?_) (fun hm => ?_))
                · have hm : ¬ cd = ")" := by simpa using hm
                  rw [closeR_bad hk fun c r e => by cases e; exact hm] at hcl
                  exact ⟨_, rfl, raise_at fun d H' e nd hd => eE n2 hcl.symm d H' (e6.trans e) (e6.free nd) hd⟩
                · have hm : cd = ")" := by simpa using hm
                  rw [hm, closeR_end hk] at hcl
                  refine ⟨_, rfl, add_i ⟨_, rfl, .inl ⟨rfl, _, SqL.of h6l⟩, lh, _, .ref a, rfl, rfl, h6l, ?_, ⟨_, _, rfl, ?_⟩⟩⟩
                  · simp
                  have edl : ((a :: as).reverse.map V.ref).dropLast = as.reverse.map V.ref := by rw [List.reverse_cons, List.map_append]; exact List.dropLast_concat
                  rw [edl]
                  have S7 := S.pop (xs := (hdV h ++ vals) ++ [v])
                  have tk7 := tk6.trans (TK.lst (o := .lst (as.reverse.map V.ref)) h6l)
                  have h7a : upd (upd H5 a (.lst ((hdV h ++ vals) ++ [v]))) lh (.lst (as.reverse.map V.ref)) a = some (.lst ((hdV h ++ vals) ++ [v])) := (upd_ne na1).trans h6a
                  have hv7 := Dt.keep tk7 _ hv
                  have hA7 := DtAll.keep tk7 _ hA
                  generalize upd (upd H5 a (.lst ((hdV h ++ vals) ++ [v]))) lh (.lst (as.reverse.map V.ref)) = H7 at S7 h7a hv7 hA7 ⊢
                  have fin : ∀ (v' : V) (H8 : Hp), Same H7 H8 → Dt K H8 v' (h.push t).done.pd → _ := fun v' H8 e8 dv => (⟨hs.length, Nat.lt_succ_self _, n2 + 1, (h.push t).done, v', as, hs, some (.ref a), rfl, S7.keep e8, by omega, by omega, by rw [List.length_cons] at h3; omega, dv, hcl, rfl⟩ : ∃ m', m' < (h :: hs).length ∧ ∃ (n3 : Nat) (t3 : Tm) (v3 : V) (as3 : List Addr) (hs3 : List Hd4) (x6 : Option V), ([some (.ref lw), some (.int (n2 + 1 : Nat)), some (.ref dp), some (.ref lh), some (.str wd), some v', some (.ref a)] : L2.St) = [some (.ref lw), some (.int n3), some (.ref dp), some (.ref lh), some (.str wd), some v3, x6] ∧ Sta K H H8 lh dp as3 hs3 ∧ n < n3 ∧ n3 ≤ ws.length ∧ hs3.length ≤ n3 ∧ Dt K H8 v3 t3.pd ∧ closeR t3 (ws.drop n3) n3 hs3 = R ∧ m' = hs3.length)
                  rcases done_cases ok hk hA7 with ⟨hw, p1, p2, v1, v2, rfl, d1, d2, hdn⟩ | ⟨hw, p1, v1, rfl, d1, hdn⟩ | ⟨hw, p1, v1, rfl, d1, hdn⟩
                  · have ehd : hdV h = [.str "let"] := by unfold hdV; rw [if_pos hw]
                    rw [ehd] at h7a
                    refine ⟨_, rfl, ixl (i := 0) (SqL.of h7a) rfl (eq_str (b := false) (by decide +kernel) ⟨_, rfl, iteF ?_⟩)⟩
                    refine ⟨_, rfl, a, _, rfl, .inl ⟨SqL.of h7a, fun l nl => ?_⟩⟩
                    refine fin _ _ (same_new nl) ?_
                    rw [hdn]
                    have tk8 : TK K H7 (upd H7 l (.tup ([V.str "let"] ++ [v1, v2] ++ [v]))) := TK.new nl
                    exact .tup (SqT.of upd_same) (.cons (.str _) (.cons (Dt.keep tk8 _ d1) (.cons (Dt.keep tk8 _ d2) (.cons (Dt.keep tk8 _ hv7) .nil))))
                  · have hl : ¬ h.w = "let" := by rw [hw]; exact nle3
                    have ehd : hdV h = [.str "app", .str h.m] := by unfold hdV; rw [if_neg hl, hw]
                    rw [ehd] at h7a
                    refine ⟨_, rfl, ixl (i := 0) (SqL.of h7a) rfl (eq_str (b := true) (by decide +kernel) ⟨_, rfl, iteT ?_⟩)⟩
                    refine ⟨_, rfl, ixl (i := 2) (SqL.of h7a) rfl ⟨_, rfl, ixl (i := 1) (SqL.of h7a) rfl ⟨_, rfl, ixl (i := 3) (SqL.of h7a) rfl (tup_new (K := K) (ds := [.str "app", p1.pd, .str h.m, t.pd]) (.cons (.str _) (.cons d1 (.cons (.str _) (.cons hv7 .nil)))) (by show 4 ≤ 1000; decide) fun v' H8 e8 dv => ?_)⟩⟩⟩
                    refine fin v' H8 e8 ?_
                    rw [hdn]; exact dv
                  · have hl : ¬ h.w = "let" := by rcases hw with hw | hw <;> rw [hw]; exact nle1; exact nle2
                    have hap : ¬ h.w = "app" := by rcases hw with hw | hw <;> rw [hw]; exact npa; exact nfa
                    have ehd : hdV h = [.str h.w, .str h.m] := by unfold hdV; rw [if_neg hl]
                    rw [ehd] at h7a
                    refine ⟨_, rfl, ixl (i := 0) (SqL.of h7a) rfl (eq_str (b := false) (by rw [Bool.false_xor]; exact decide_eq_false hap) ⟨_, rfl, iteF ?_⟩)⟩
                    refine ⟨_, rfl, a, _, rfl, .inl ⟨SqL.of h7a, fun l nl => ?_⟩⟩
                    refine fin _ _ (same_new nl) ?_
                    rw [hdn]
                    have tk8 : TK K H7 (upd H7 l (.tup ([V.str h.w, V.str h.m] ++ [v1] ++ [v]))) := TK.new nl
                    exact .tup (SqT.of upd_same) (.cons (.str _) (.cons (.str _) (.cons (Dt.keep tk8 _ d1) (.cons (Dt.keep tk8 _ hv7) .nil))))
              · have e0 : ws.drop n2 = [] := List.drop_eq_nil_of_le (by omega)
                rw [e0, closeR_bad hk fun c r e => by cases e] at hcl
                refine w_val true (.or (a := true) (b := false) (fun Q' q => ⟨_, rfl, _, rfl, _, ws.length, rfl, lenW hw6, _, _, rfl, rfl, _, rfl, by rw [decide_eq_true (by omega)]; exact q⟩) (fun z => nomatch z)) (iteT ?_)
                exact ⟨_, rfl, raise_at fun d H' e nd hd => eE n2 hcl.symm d H' (e6.trans e) (e6.free nd) hd⟩
end
end RS

/-! ReadT4: read_term. -/
namespace RS
open PySem PySem.Spec PyProof.Rows L2 TL NdefX

structure rRT (K : PySem.W.Frag) (CT : Addr) (vs : List V) (H : Hp) (Q : VK) (E : XK) : Prop where
  ex : ∃ v, vs = [v] ∧ ((∃ (z : Str) (ws : List Str), v = .str z ∧ ws = Txt.split z " " ∧ z.length ≤ 1000000 ∧ ws.length ≤ 10000 ∧ (∀ p ∈ ws, p.length ≤ 100000) ∧
      match readT ws with
      | .ok t => ∀ v H', Same H H' → Dt K H' v t.pd → Q v H'
      | .error k => ∀ d H', Same H H' → H d = none → H' d = some (.xd [("at", .int (k : Nat))]) → E (.ref CT) (some d) H') ∨
    (∃ t, TyX K H v (.type t) ∧ L2.kitB t "str" = some false ∧ ∀ d H', Same H H' → H d = none → H' d = some (.xd [("at", .int (0 : Nat))]) → E (.ref CT) (some d) H'))
def spRT (K : PySem.W.Frag) (CT : Addr) : Sp := fun vs H Q E => rRT K CT vs H Q E
section
variable {P : Program} {w : World} {K : PySem.W.Frag} {mg : Str → Option Value} {base : Heap}
theorem sc_read_term : FnScope ["text", "words", "term", "at"] ["text"] (defScope s_read_term) := ⟨rfl, rfl, rfl, by decide +kernel, rfl, by decide +kernel, by decide +kernel⟩
theorem ok_read_term {f CT : Addr} {fd : FuncData} (F : Fun K "read_term" "read_term" s_read_term f fd) (n_isinstance : mg "isinstance" = none) (n_str : mg "str" = none) (n_len : mg "len" = none) (Mv_BadText : MkX P w K mg base "BadText" CT 1 ["self", "at"] (spIni CT (fs1 "at") 1) ["at"] [0])
    (Dread_words : DfN P w K mg base "read_words" 5 ["words", "at"] (spRW K CT)) : FnOk P w K mg base (L2N.CX P w) 6 f fd ["text"] (spRT K CT) := by
  refine Fun.okN F sc_read_term (fun vs H Q E h => ?_) (fun cdv A outer s H vs Q E hr h => ?_)
  · obtain ⟨v, rfl, _⟩ := h.ex; rfl
  · obtain ⟨v, rfl, h2⟩ := h.ex
    clear h
    have nd := sc_read_term.nd
    refine ⟨_, (pss_cons (ps_if (pt_not (pt_val (pe_callB call_isU (by rfl) n_isinstance (by decide +kernel) (pa_cons (pv 0) (pa_cons (pe_bltn (v := .ty "str") rfl n_str (by decide +kernel) rfl) pa_nil)))))
        (pss_one (L2N.ps_raise rfl (L2N.takes_of rfl rfl rfl rfl) (pmkN_mkX Mv_BadText hr (by omega) (pa_cons pe_int pa_nil))))
        pss_nil)
      (pss_cons (ps_set (i := 1) nd rfl (Or.inl rfl) (pe_split (pv 0) pe_str))
      (pss_cons (ps_asg (pe_dfN Dread_words hr (by omega) (L2N.passes_call (L2N.takes_of rfl rfl rfl rfl) fun _ _ _ _ h => h) (pa_cons (pv 1) (pa_cons pe_int pa_nil))) (pg_tup rfl (pgs_cons (pg_name (i := 2) nd rfl (Or.inl rfl)) (pgs_cons (pg_name (i := 3) nd rfl (Or.inl rfl)) pgs_nil))))
      (pss_cons (ps_if (pt_cmpR (uNe hr.units) (pv 3) (pe_callB uLen (by rfl) n_len (by decide +kernel) (pa_cons (pv 1) pa_nil)) (nomark _))
        (pss_one (L2N.ps_raise rfl (L2N.takes_of rfl rfl rfl rfl) (pmkN_mkX Mv_BadText hr (by omega) (pa_cons (pv 3) pa_nil))))
        pss_nil)
      (pss_one (ps_ret (pv 2))))))), ?_⟩
    rcases h2 with ⟨z, ws, rfl, hws, hz, hn, hl, hk⟩ | ⟨t, ht, hkb, hk⟩
    · refine ⟨_, rfl, isi_u (.base (.str z)) (by decide +kernel) ⟨true, rfl, iteF ?_⟩⟩
      refine ⟨_, rfl, ⟨_, rfl⟩, z, " ", rfl, rfl, by decide +kernel, by rw [sizeLine_eq]; omega, fun lw nw => ?_⟩
      rw [← hws]
      have e1 : Same H (upd H lw (.lst (ws.map V.str))) := same_new nw
      have hw1 : upd H lw (.lst (ws.map V.str)) lw = some (.lst (ws.map V.str)) := upd_same
      generalize upd H lw (.lst (ws.map V.str)) = H1 at e1 hw1 ⊢
      refine ⟨_, rfl, ⟨⟨lw, ws, rfl, hw1, hn, hl, ?_⟩⟩⟩
      have hR : run (ws.length + 1) ws 0 [] = Run ws 0 [] := rfl
      unfold readT at hk
      rw [hR] at hk
      cases e : Run ws 0 [] with
      | error k =>
        rw [e] at hk
        exact fun d H' e2 nd hd => hk d H' (e1.trans e2) (e1.free nd) hd
      | ok r =>
        obtain ⟨t, n⟩ := r
        rw [e] at hk
        dsimp only at hk
        intro v H2 e2 dv
        obtain ⟨a, xs, rfl, hT, hD⟩ := dv.tupI
        obtain ⟨v1, r1, rfl, d1, hD⟩ := hD.consI
        obtain ⟨v2, r2, rfl, d2, hD⟩ := hD.consI
        obtain rfl := hD.nilI
        obtain rfl := d2.intI
        refine ⟨a, _, rfl, hT, rfl, _, _, rfl, _, _, rfl, rfl, ?_⟩
        refine ⟨_, rfl, _, rfl, _, ws.length, rfl, lenW (e2 _ _ hw1), eq_f (b := !decide (n = ws.length)) rfl (by rw [Bool.true_xor]; congr 1; rw [Bool.eq_iff_iff, decide_eq_true_eq, decide_eq_true_eq]; exact ⟨fun h => by injection h with h; omega, fun h => by rw [h]⟩) ⟨_, rfl, ite2 (fun hc => ?_) (fun hc => ?_)⟩⟩
        · have hc : ¬ n = ws.length := by simpa using hc
          rw [if_neg hc] at hk
          exact ⟨_, rfl, raise_at fun d H' e3 nd hd => hk d H' ((e1.trans e2).trans e3) ((e1.trans e2).free nd) hd⟩
        · have hc : n = ws.length := by simpa using hc
          rw [if_pos hc] at hk
          exact ⟨_, rfl, hk _ _ (e1.trans e2) d1⟩
    · exact ⟨_, rfl, isi_u ht hkb ⟨false, rfl, iteT (raise_at fun d H' e3 nd hd => hk d H' e3 nd hd)⟩⟩
end
end RS

/-! Data: what repr and == ask of a datum, put together part by part. -/
namespace RS
open PySem PySem.Spec PyProof.Rows L2 TL

/-- d may be laid, shown; its height, its weight -/
structure Okd (d : PyData) (D W : Nat) : Prop where
  lay : d.canLay0 = true
  shw : d.showable = true
  dep : d.depth ≤ D
  ivs : d.intsShort 20 = true
  wei : d.weight ≤ W
structure OkdA (ds : List PyData) (D W : Nat) : Prop where
  lay : PyData.canLayAll0 ds = true
  shw : PyData.showableAll ds = true
  dep : PyData.depthAll ds ≤ D
  ivs : PyData.intsShortAll 20 ds = true
  wei : PyData.weightAll ds ≤ W
theorem Okd.mono {d : PyData} {D W D' W' : Nat} (h : Okd d D W) (a : D ≤ D') (b : W ≤ W') : Okd d D' W' := ⟨h.lay, h.shw, Nat.le_trans h.dep a, h.ivs, Nat.le_trans h.wei b⟩
theorem OkdA.mono {d : List PyData} {D W D' W' : Nat} (h : OkdA d D W) (a : D ≤ D') (b : W ≤ W') : OkdA d D' W' := ⟨h.lay, h.shw, Nat.le_trans h.dep a, h.ivs, Nat.le_trans h.wei b⟩
theorem OkdA.nil {D : Nat} : OkdA [] D 0 := ⟨by simp only [PyData.canLayAll0], by simp only [PyData.showableAll], by simp only [PyData.depthAll]; exact Nat.zero_le _, by simp only [PyData.intsShortAll], by simp only [PyData.weightAll]; exact Nat.zero_le _⟩
theorem OkdA.cons {d : PyData} {ds : List PyData} {D W W' : Nat} (h : Okd d D W) (r : OkdA ds D W') : OkdA (d :: ds) D (W + 1 + W') :=
  ⟨by simp only [PyData.canLayAll0, h.lay, r.lay, Bool.and_self], by simp only [PyData.showableAll, h.shw, r.shw, Bool.and_self], by simp only [PyData.depthAll]; exact Nat.max_le.mpr ⟨h.dep, r.dep⟩,
    by simp only [PyData.intsShortAll, h.ivs, r.ivs, Bool.and_self], by simp only [PyData.weightAll]; have := h.wei; have := r.wei; omega⟩
theorem OkdA.tup {ds : List PyData} {D W : Nat} (h : OkdA ds D W) : Okd (.tuple ds) (D + 1) W :=
  ⟨by simp only [PyData.canLay0]; exact h.lay, by simp only [PyData.showable]; exact h.shw, by simp only [PyData.depth]; have := h.dep; omega, by simp only [PyData.intsShort]; exact h.ivs, by simp only [PyData.weight]; exact h.wei⟩
theorem OkdA.lst {ds : List PyData} {D W : Nat} (h : OkdA ds D W) : Okd (.list ds) (D + 1) W :=
  ⟨by simp only [PyData.canLay0]; exact h.lay, by simp only [PyData.showable]; exact h.shw, by simp only [PyData.depth]; have := h.dep; omega, by simp only [PyData.intsShort]; exact h.ivs, by simp only [PyData.weight]; exact h.wei⟩
theorem OkdA.all {W : Nat} {D : Nat} : ∀ (ds : List PyData), (∀ d ∈ ds, Okd d D W) → OkdA ds D (ds.length * (W + 1))
  | [], _ => OkdA.nil.mono (Nat.le_refl _) (Nat.zero_le _)
  | d :: ds, h => ((OkdA.cons (h d List.mem_cons_self) (OkdA.all ds fun x hx => h x (List.mem_cons_of_mem _ hx)))).mono (Nat.le_refl _) (by rw [List.length_cons, Nat.succ_mul]; omega)
theorem Okd.int {i : Int} {D : Nat} (h : i.natAbs < 10 ^ 18) : Okd (.int i) D 64 := by
  have hl : i.natAbs.log2 < 64 := by
    rcases Nat.eq_zero_or_pos i.natAbs with z | z
    · rw [z]; decide
    · exact (Nat.log2_lt (by omega)).mpr (Nat.lt_trans h (by decide))
  refine ⟨rfl, by simp only [PyData.showable, decide_eq_true_eq]; omega, Nat.zero_le _, ?_, ?_⟩
  · have e := int_text_length_le10 (k := 18) (by decide) h
    simp only [PyData.intsShort, decide_eq_true_eq]
    show (Str.ofString (toString i)).length ≤ 20
    rw [PySem.ofString_length]; omega
  · simp only [PyData.weight]
    split <;> omega
theorem Okd.str {x : Str} {D W : Nat} (h : PyData.strOk x = true) (hw : x.cps.size ≤ W) : Okd (.str x) D W := ⟨h, rfl, Nat.zero_le _, rfl, hw⟩
theorem Okd.shaped {d : PyData} {D W : Nat} (h : Okd d D W) (hD : D ≤ 64) : SeqAt.shaped d = true := Bool.and_eq_true_iff.mpr ⟨h.lay, decide_eq_true (Nat.le_trans h.dep hD)⟩
theorem Okd.noDict {d : PyData} {D W : Nat} (h : Okd d D W) : d.hasDict = false := PyData.hasDict_of_canLay d h.lay
theorem Okd.len {d : PyData} {D W : Nat} (h : Okd d D W) (hW : W ≤ 700000) : d.shown.length ≤ sizeLine := by
  have h1 := PyData.shown_le 20 (by decide) d (PyData.leavesShort_of_canLay0 20 d h.lay h.ivs)
  have h2 := Nat.mul_le_mul_left (20 + 2) (Nat.le_trans h.wei hW)
  rw [sizeLine_eq]; omega
theorem Okd.eqv {d : PyData} {D W : Nat} (h : Okd d D W) : PyData.eqv d d = true := SeqAt.eqv_refl_plain d (PyData.plain_of_canLay0 d h.lay)

/-! ### repr, told so that the unifier opens the other side -/
structure rRepU (K : PySem.W.Frag) (xs : List V) (H : Hp) (Q : VK) : Prop where
  ex : ∃ a d D W, xs = [.ref a] ∧ Dp K H (.ref a) d ∧ Okd d D W ∧ D + 1 ≤ 64 ∧ W ≤ 700000 ∧ Q (.str d.shown) H
theorem uRepr {X : Cx} (hg : AG X.A) (hu : X.A.units + 64 < cLine) : CallR X (.builtin "repr") (rRepU X.K) := fun pins s σ H xs us Q I r h => by
  obtain ⟨a, d, D, W, e, hd, o, h1, h2, q⟩ := h.ex
  exact cr_repr hg hu pins s σ H xs us Q I r ⟨a, d, e, hd, o.shw, o.noDict, by have := o.dep; omega, o.len h2, q⟩
theorem rp {K : PySem.W.Frag} {H : Hp} {l : Addr} {d : PyData} {D W : Nat} {Q : VK} (h : Dp K H (.ref l) d) (o : Okd d D W) (hD : D + 1 ≤ 64) (hW : W ≤ 700000) (q : Q (.str d.shown) H) : rRepU K [.ref l] H Q := ⟨l, d, D, W, rfl, h, o, hD, hW, q⟩
theorem rpL {K : PySem.W.Frag} {H : Hp} {l : Addr} {xs : List V} {ds : List PyData} {D W : Nat} {Q : VK} (h : SqL K H l xs) (hd : DtAll K H xs ds) (o : OkdA ds D W) (hD : D + 2 ≤ 64) (hW : W ≤ 700000) (q : Q (.str (PyData.list ds).shown) H) : rRepU K [.ref l] H Q :=
  rp (.lst h (DtAll.dp _ hd)) o.lst (by omega) hW q

/-! ### terms -/
theorem mark_ok {m : Str} (h : m ∈ marksL) : PyData.strOk m = true ∧ m.cps.size ≤ 6 := by
  have : ∀ x ∈ marksL, PyData.strOk x = true ∧ x.cps.size ≤ 6 := by decide +kernel
  exact this m h
theorem word_ok {m : Str} (h : isWord m = true) : PyData.strOk m = true ∧ m.cps.size ≤ 16 := by
  obtain ⟨c, cs, e, hl, _, _, h2⟩ := word_spec h
  have hall : ((cl allS).all fun d => decide (d < 0x110000)) = true := by decide +kernel
  refine ⟨?_, by have := (okW_word h).2; exact this⟩
  show m.cps.all (· < 0x110000) = true
  rw [← Array.all_toList, List.all_eq_true]
  intro d hd
  rw [show m.cps.toList = c :: cs from e] at hd
  exact List.all_eq_true.mp hall d (h2 d hd)
theorem lit_ok {x : Str} {n : Nat} {D : Nat} (h : (PyData.strOk x && decide (x.cps.size ≤ n)) = true) : Okd (.str x) D n := by
  rw [Bool.and_eq_true, decide_eq_true_eq] at h
  exact .str h.1 h.2
theorem Tm.nodes_one : ∀ t : Tm, 1 ≤ t.nodes
  | .num _ _ => Nat.le_refl _
  | .name _ => Nat.le_refl _
  | .count _ _ => Nat.le_refl _
  | .bin _ _ _ _ => Nat.le_add_right _ _
  | .letT _ _ _ => Nat.le_add_right _ _
  | .app _ _ _ => Nat.le_add_right _ _
theorem Tm.okd : ∀ (t : Tm), t.wf → Okd t.pd t.depth (100 * t.nodes)
  | .num w n, h => by
    have hw : Okd (.str w) 0 6 := by
      rcases h with ⟨rfl, _⟩ | ⟨rfl | rfl | rfl, _⟩ <;> exact lit_ok (by decide +kernel)
    have hn : n.natAbs < 10 ^ 18 := by
      have e : (10 : Nat) ^ 18 = 1000000000000000000 := by decide
      rcases h with ⟨_, h1, h2⟩ | ⟨_, h1, h2⟩ <;> omega
    exact (OkdA.tup (.cons hw (.cons (.int hn) .nil))).mono (Nat.le_refl _) (by show 6 + 1 + (64 + 1 + 0) ≤ 100 * 1; decide)
  | .name x, h => by
    have hx := word_ok h
    have hw : Okd (.str "name") 0 6 := lit_ok (by decide +kernel)
    exact (OkdA.tup (.cons hw (.cons (Okd.str (W := 16) hx.1 hx.2) .nil))).mono (Nat.le_refl _) (by show 6 + 1 + (16 + 1 + 0) ≤ 100 * 1; decide)
  | .count x n, h => by
    obtain ⟨hw0, h1, h2⟩ := h
    have hx0 := word_ok hw0
    have hn : n.natAbs < 10 ^ 18 := by
      have e : (10 : Nat) ^ 18 = 1000000000000000000 := by decide
      have e' : (10 : Int) ^ 18 = 1000000000000000000 := by decide
      omega
    have hw : Okd (.str "count") 0 5 := lit_ok (by decide +kernel)
    exact (OkdA.tup (.cons hw (.cons (Okd.str (W := 16) hx0.1 hx0.2) (.cons (.int hn) .nil)))).mono (Nat.le_refl _) (by show 5 + 1 + (16 + 1 + (64 + 1 + 0)) ≤ 100 * 1; decide)
  | .bin w m a b, h => by
    obtain ⟨h1, h2, h3, h4⟩ := h
    have hw : Okd (.str w) (max a.depth b.depth) 6 := by rcases h1 with rfl | rfl <;> exact lit_ok (by decide +kernel)
    have hm := mark_ok h2
    have ia := (a.okd h3).mono (Nat.le_max_left _ b.depth) (Nat.le_refl _)
    have ib := (b.okd h4).mono (Nat.le_max_right a.depth _) (Nat.le_refl _)
    have na := a.nodes_one; have nb := b.nodes_one
    exact (OkdA.tup (.cons hw (.cons (Okd.str (W := 6) hm.1 hm.2) (.cons ia (.cons ib .nil))))).mono (by simp only [Tm.depth]; omega) (by simp only [Tm.nodes]; omega)
  | .letT a b c, h => by
    obtain ⟨h1, h2, h3⟩ := h
    have hw : Okd (.str "let") (max a.depth (max b.depth c.depth)) 6 := lit_ok (by decide +kernel)
    have ia := (a.okd h1).mono (Nat.le_max_left _ (max b.depth c.depth)) (Nat.le_refl _)
    have ib := (b.okd h2).mono (Nat.le_trans (Nat.le_max_left _ c.depth) (Nat.le_max_right a.depth _)) (Nat.le_refl _)
    have ic := (c.okd h3).mono (Nat.le_trans (Nat.le_max_right b.depth _) (Nat.le_max_right a.depth _)) (Nat.le_refl _)
    exact (OkdA.tup (.cons hw (.cons ia (.cons ib (.cons ic .nil))))).mono (by simp only [Tm.depth]; omega) (by simp only [Tm.nodes]; omega)
  | .app f m x, h => by
    obtain ⟨h1, h2, h3⟩ := h
    have hw : Okd (.str "app") (max f.depth x.depth) 6 := lit_ok (by decide +kernel)
    have hm := mark_ok h2
    have ia := (f.okd h1).mono (Nat.le_max_left _ x.depth) (Nat.le_refl _)
    have ib := (x.okd h3).mono (Nat.le_max_right f.depth _) (Nat.le_refl _)
    exact (OkdA.tup (.cons hw (.cons ia (.cons (Okd.str (W := 6) hm.1 hm.2) (.cons ib .nil))))).mono (by simp only [Tm.depth]; omega) (by simp only [Tm.nodes]; omega)

/-! ### texts -/
def asc (z : Str) : Prop := ∀ c ∈ cl z, c < 0x110000
theorem asc_app {a b : Str} (h1 : asc a) (h2 : asc b) : asc (a ++ b) := fun c hc => by
  rw [cl_app, List.mem_append] at hc
  exact hc.elim (h1 c) (h2 c)
theorem asc_by {z : Str} (h : ((cl z).all fun d => decide (d < 0x110000)) = true) : asc z := fun c hc => of_decide_eq_true (List.all_eq_true.mp h c hc)
theorem asc_word {z : Str} (h : isWord z = true) : asc z := fun c hc => by
  obtain ⟨d, ds, e, _, _, _, h2⟩ := word_spec h
  have hall : ((cl allS).all fun d => decide (d < 0x110000)) = true := by decide +kernel
  rw [e] at hc
  exact of_decide_eq_true (List.all_eq_true.mp hall c (h2 c hc))
theorem asc_num {n : Nat} (h : n < 10 ^ 18) : asc (numS n) := fun c hc => by
  have := (digB_digits (digB_numS h)).1 c hc
  omega
theorem asc_leaf {t : Tm} (hl : t.isLeaf = true) (h : t.wf) : asc (leafText t) := by
  cases t with
  | num w n =>
    obtain ⟨k, rfl, hk⟩ : ∃ k : Nat, n = k ∧ k < 10 ^ 18 := by
      rcases h with ⟨_, h0, h4⟩ | ⟨_, h0, h1⟩
      · exact ⟨n.toNat, by omega, by omega⟩
      · exact ⟨n.toNat, by omega, by omega⟩
    have hs : asc (signOf w) := by
      unfold signOf
      split
      · exact asc_by (by decide +kernel)
      · split
        · exact asc_by (by decide +kernel)
        · split
          · exact asc_by (by decide +kernel)
          · exact asc_by (by decide +kernel)
    show asc (signOf w ++ numS k)
    exact asc_app hs (asc_num hk)
  | name x => exact asc_word h
  | count x n =>
    obtain ⟨hw, h0, h1⟩ := h
    obtain ⟨k, rfl⟩ : ∃ k : Nat, n = k := ⟨n.toNat, by omega⟩
    show asc (x ++ ":" ++ numS k)
    exact asc_app (asc_app (asc_word hw) (asc_by (by decide +kernel))) (asc_num (by omega))
  | bin w m a b => cases hl
  | letT a b c => cases hl
  | app f m x => cases hl
theorem asc_mark {m : Str} (h : m ∈ markL) : asc m := by
  simp only [markL, List.mem_cons, List.not_mem_nil, or_false] at h
  rcases h with rfl | rfl | rfl | rfl <;> exact asc_by (by decide +kernel)
theorem asc_words : ∀ t : Tm, t.wf → ∀ z ∈ cwords t, asc z
  | .num w k, h, z, hz => by rw [leaf_words rfl, List.mem_singleton] at hz; rw [hz]; exact asc_leaf rfl h
  | .name x, h, z, hz => by rw [leaf_words rfl, List.mem_singleton] at hz; rw [hz]; exact asc_leaf rfl h
  | .count x k, h, z, hz => by rw [leaf_words rfl, List.mem_singleton] at hz; rw [hz]; exact asc_leaf rfl h
  | .bin w m a b, ⟨hw, hm, ha, hb⟩, z, hz => by
    simp only [cwords, List.mem_append, List.mem_cons, List.not_mem_nil, or_false] at hz
    rcases hz with (((hz | hz) | hz) | hz) | hz
    · rw [hz]; rcases hw with rfl | rfl <;> exact asc_by (by decide +kernel)
    · rw [hz]; exact asc_mark hm
    · exact asc_words a ha z hz
    · exact asc_words b hb z hz
    · rw [hz]; exact asc_by (by decide +kernel)
  | .letT a b c, ⟨ha, hb, hc⟩, z, hz => by
    simp only [cwords, List.mem_append, List.mem_cons, List.not_mem_nil, or_false] at hz
    rcases hz with (((hz | hz) | hz) | hz) | hz
    · rw [hz]; exact asc_by (by decide +kernel)
    · exact asc_words a ha z hz
    · exact asc_words b hb z hz
    · exact asc_words c hc z hz
    · rw [hz]; exact asc_by (by decide +kernel)
  | .app f m x, ⟨hf, hm, hx⟩, z, hz => by
    simp only [cwords, List.mem_append, List.mem_cons, List.not_mem_nil, or_false] at hz
    rcases hz with (((hz | hz) | hz) | hz) | hz
    · rw [hz]; exact asc_by (by decide +kernel)
    · rw [hz]; exact asc_mark hm
    · exact asc_words f hf z hz
    · exact asc_words x hx z hz
    · rw [hz]; exact asc_by (by decide +kernel)
theorem asc_join (ws : List Str) (h : ∀ z ∈ ws, asc z) : asc (Txt.join " " ws) := by
  have key : ∀ l : List Str, (∀ z ∈ l, asc z) → ∀ c ∈ joinL [32] (l.map cl), c < 0x110000 := by
    intro l
    induction l with
    | nil => intro _ c hc; cases hc
    | cons a l ih =>
      intro hl c hc
      have ih := ih fun y hy => hl y (List.mem_cons_of_mem _ hy)
      cases l with
      | nil => exact hl a List.mem_cons_self c hc
      | cons b l =>
        have hc : c ∈ cl a ++ ([32] ++ joinL [32] ((b :: l).map cl)) := hc
        rw [List.mem_append, List.mem_append] at hc
        rcases hc with hc | hc | hc
        · exact hl a List.mem_cons_self c hc
        · simp at hc; omega
        · exact ih c hc
  intro c hc
  rw [join_eq] at hc
  have e := tl_join " " ws
  rw [show tl (" " : Str) = [32] from sp_cl] at e
  rw [show cl (Str.join " " ws) = tl (Str.join " " ws) from rfl, e] at hc
  exact key ws h c hc
theorem Okd.text {z : Str} {D : Nat} (h : asc z) : Okd (.str z) D z.length := Okd.str (by
  show z.cps.all (· < 0x110000) = true
  rw [← Array.all_toList, List.all_eq_true]
  exact fun d hd => decide_eq_true (h d hd)) (Nat.le_refl _)
end RS

/-! Leaves: the law's own parts and leaves of a term. -/
namespace RS
open PySem PySem.Spec PyProof.Rows L2

def Tm.leaves : Tm → Int → List (Tm × Int)
  | .bin _ _ a b, n => a.leaves n ++ b.leaves (n + 1)
  | .letT a b c, n => a.leaves n ++ (b.leaves n ++ c.leaves (n + 1))
  | .app f _ x, n => f.leaves n ++ x.leaves n
  | .num w k, n => [(.num w k, n)]
  | .name x, n => [(.name x, n)]
  | .count x k, n => [(.count x k, n)]
theorem Tm.depth_pos (t : Tm) : 1 ≤ t.depth := by cases t <;> simp only [Tm.depth] <;> omega
theorem Tm.nodes_pos (t : Tm) : 1 ≤ t.nodes := by cases t <;> simp only [Tm.nodes] <;> omega
theorem Tm.leaves_len : ∀ (t : Tm) (n : Int), (t.leaves n).length ≤ t.nodes
  | .bin _ _ a b, n => by simp only [Tm.leaves, Tm.nodes, List.length_append]; have := a.leaves_len n; have := b.leaves_len (n + 1); omega
  | .letT a b c, n => by simp only [Tm.leaves, Tm.nodes, List.length_append]; have := a.leaves_len n; have := b.leaves_len n; have := c.leaves_len (n + 1); omega
  | .app f _ x, n => by simp only [Tm.leaves, Tm.nodes, List.length_append]; have := f.leaves_len n; have := x.leaves_len n; omega
  | .num _ _, _ => Nat.le_refl _
  | .name _, _ => Nat.le_refl _
  | .count _ _, _ => Nat.le_refl _
theorem Tm.part_lt {t p : Tm} {n : Int} (h : (p, n) ∈ t.parts) : p.depth < t.depth ∧ p.nodes < t.nodes := by
  cases t with
  | bin w m a b => simp only [Tm.parts, List.mem_cons, List.not_mem_nil, or_false, Prod.mk.injEq] at h; rcases h with ⟨rfl, _⟩ | ⟨rfl, _⟩ <;> simp only [Tm.depth, Tm.nodes] <;> omega
  | letT a b c => simp only [Tm.parts, List.mem_cons, List.not_mem_nil, or_false, Prod.mk.injEq] at h; rcases h with ⟨rfl, _⟩ | ⟨rfl, _⟩ | ⟨rfl, _⟩ <;> simp only [Tm.depth, Tm.nodes] <;> omega
  | app f m x => simp only [Tm.parts, List.mem_cons, List.not_mem_nil, or_false, Prod.mk.injEq] at h; rcases h with ⟨rfl, _⟩ | ⟨rfl, _⟩ <;> simp only [Tm.depth, Tm.nodes] <;> omega
  | num _ _ => cases h
  | name _ => cases h
  | count _ _ => cases h
theorem Tm.part_wf {t p : Tm} {n : Int} (wf : t.wf) (h : (p, n) ∈ t.parts) : p.wf := by
  cases t with
  | bin w m a b => simp only [Tm.parts, List.mem_cons, List.not_mem_nil, or_false, Prod.mk.injEq] at h; rcases h with ⟨rfl, _⟩ | ⟨rfl, _⟩ <;> first | exact wf.2.2.1 | exact wf.2.2.2
  | letT a b c => simp only [Tm.parts, List.mem_cons, List.not_mem_nil, or_false, Prod.mk.injEq] at h; rcases h with ⟨rfl, _⟩ | ⟨rfl, _⟩ | ⟨rfl, _⟩ <;> first | exact wf.1 | exact wf.2.1 | exact wf.2.2
  | app f m x => simp only [Tm.parts, List.mem_cons, List.not_mem_nil, or_false, Prod.mk.injEq] at h; rcases h with ⟨rfl, _⟩ | ⟨rfl, _⟩ <;> first | exact wf.1 | exact wf.2.2
  | num _ _ => cases h
  | name _ => cases h
  | count _ _ => cases h
def partLeaves (n : Int) (ps : List (Tm × Int)) : List (Tm × Int) := ps.flatMap fun p => p.1.leaves (n + p.2)
theorem partLeaves_snoc (n : Int) (ps : List (Tm × Int)) (p : Tm × Int) : partLeaves n (ps ++ [p]) = partLeaves n ps ++ p.1.leaves (n + p.2) := by simp [partLeaves]
theorem partLeaves_all {t : Tm} (n : Int) (h : t.parts ≠ []) : partLeaves n t.parts = t.leaves n := by
  cases t <;> simp_all [Tm.parts, partLeaves, Tm.leaves]
theorem partLeaves_take_len {t : Tm} (n : Int) (i : Nat) : (partLeaves n (t.parts.take i)).length ≤ t.nodes := by
  have h : ∀ (ps : List (Tm × Int)) (i : Nat), (partLeaves n (ps.take i)).length ≤ (ps.map fun p => p.1.nodes).sum := by
    intro ps
    induction ps with
    | nil => intro i; simp [partLeaves]
    | cons p ps ih =>
      intro i
      cases i with
      | zero => simp [partLeaves]
      | succ i =>
        have h1 := p.1.leaves_len (n + p.2)
        have h2 := ih i
        simp only [List.take_succ_cons, partLeaves, List.flatMap_cons, List.length_append, List.map_cons, List.sum_cons] at *
        omega
  refine Nat.le_trans (h t.parts i) ?_
  cases t <;> simp only [Tm.parts, List.map_cons, List.map_nil, List.sum_cons, List.sum_nil, Tm.nodes] <;> omega
theorem leaf_leaves {t : Tm} (n : Int) (h : t.parts = []) : t.leaves n = [(t, n)] := by
  cases t <;> simp_all [Tm.parts, Tm.leaves]
/-- one of the parts, in the heap -/
theorem parts_at {K : PySem.W.Frag} {H : Hp} {xs : List V} {ps : List (Tm × Int)} {i : Nat} {x : V} (h : DtAll K H xs (ps.map pdP)) (hx : xs[i]? = some x) :
    ∃ pt n p vp, ps[i]? = some (pt, n) ∧ x = .ref p ∧ SqT K H p [vp, .int n] ∧ Dt K H vp pt.pd := by
  obtain ⟨d, hd, dx⟩ := h.get hx
  rw [List.getElem?_map] at hd
  cases e : ps[i]? with
  | none => rw [e] at hd; cases hd
  | some q =>
    rw [e] at hd
    obtain rfl : pdP q = d := Option.some.inj hd
    obtain ⟨p, ys, rfl, hT, r⟩ := Dt.tupI (show Dt K H x (.tuple [q.1.pd, .int q.2]) from dx)
    obtain ⟨v1, ws, rfl, d1, r⟩ := r.consI
    obtain ⟨v2, ws, rfl, d2, r⟩ := r.consI
    obtain rfl := r.nilI; obtain rfl := d2.intI
    exact ⟨q.1, q.2, p, v1, by rw [Prod.eta], rfl, hT, d1⟩
section
variable {P : Program} {w : World} {K : PySem.W.Frag} {mg : Str → Option Value} {base : Heap}
theorem sc_law_rt_parts : FnScope ["term"] ["term"] (defScope s_law_rt_parts) := ⟨rfl, rfl, rfl, by decide +kernel, rfl, by decide +kernel, by decide +kernel⟩
theorem ok_rt_parts {f : Addr} {fd : FuncData} (F : Fun K "_law_rt_parts" "_law_rt_parts" s_law_rt_parts f fd) : FnOk P w K mg base CX0 1 f fd ["term"] (spParts K) := by
  refine F.ok sc_law_rt_parts (fun vs H Q E h => ?_) (fun cdv A outer s H vs Q E hr h => ?_)
  · obtain ⟨v, t, rfl, _⟩ := h; rfl
  · obtain ⟨v, t, rfl, hv, wf, k⟩ := h
    have nd := sc_law_rt_parts.nd
    have h1 := wf_pf wf
    have h2 := wf_let wf
    have h3 := wf_app wf
    obtain ⟨p, xs, rfl, hT⟩ := dt_word hv
    refine ⟨_, (pss_cons (ps_if (pt_cmpR uIn (pe_ix ix_seq (pv 0) pe_int (fun _ _ => rfl)) (pe_tupN (pa_cons pe_str (pa_cons pe_str pa_nil))) (by rfl))
        (pss_one (ps_ret (pe_lstN (pa_cons (pe_tupN (pa_cons (pe_ix ix_seq (pv 0) pe_int (fun _ _ => rfl)) (pa_cons pe_int pa_nil))) (pa_cons (pe_tupN (pa_cons (pe_ix ix_seq (pv 0) pe_int (fun _ _ => rfl)) (pa_cons pe_int pa_nil))) pa_nil)))))
        pss_nil)
      (pss_cons (ps_if (pt_cmpR (uEq hr.units) (pe_ix ix_seq (pv 0) pe_int (fun _ _ => rfl)) pe_str (nomark _))
        (pss_one (ps_ret (pe_lstN (pa_cons (pe_tupN (pa_cons (pe_ix ix_seq (pv 0) pe_int (fun _ _ => rfl)) (pa_cons pe_int pa_nil))) (pa_cons (pe_tupN (pa_cons (pe_ix ix_seq (pv 0) pe_int (fun _ _ => rfl)) (pa_cons pe_int pa_nil))) (pa_cons (pe_tupN (pa_cons (pe_ix ix_seq (pv 0) pe_int (fun _ _ => rfl)) (pa_cons pe_int pa_nil))) pa_nil))))))
        pss_nil)
      (pss_one (ps_ret (pe_ifExp (pt_cmpR (uEq hr.units) (pe_ix ix_seq (pv 0) pe_int (fun _ _ => rfl)) pe_str (nomark _)) (pe_lstN (pa_cons (pe_tupN (pa_cons (pe_ix ix_seq (pv 0) pe_int (fun _ _ => rfl)) (pa_cons pe_int pa_nil))) (pa_cons (pe_tupN (pa_cons (pe_ix ix_seq (pv 0) pe_int (fun _ _ => rfl)) (pa_cons pe_int pa_nil))) pa_nil))) (pe_lstN pa_nil)))))), ?_⟩
    refine ⟨_, rfl, ixt (i := 0) hT rfl (tup_at (by show 2 ≤ 1000; decide) fun q nq => in_t (SqT.of upd_same) rfl rfl (by rw [in2, h1]) ⟨_, rfl, ?_⟩)⟩
    have e0 := same_new (o := .tup [V.str "pi", V.str "fun"]) nq
    have hT0 := sqs hT e0
    cases t with
    | bin w m a b =>
      obtain ⟨p', va, vb, e, hB, ha, hb⟩ := dt_bin hv
      cases e
      refine iteT ⟨_, rfl, ixt (i := 2) (sqs hB e0) rfl (tup_new (K := K) (ds := [a.pd, .int 0]) (.cons (ha.same e0) (.cons (.int 0) .nil)) (by show 2 ≤ 1000; decide) fun v1 H1 e1 d1 => ?_)⟩
      refine ⟨_, rfl, ixt (i := 3) (sqs (sqs hB e0) e1) rfl (tup_new (K := K) (ds := [b.pd, .int 1]) (.cons ((hb.same e0).same e1) (.cons (.int 1) .nil)) (by show 2 ≤ 1000; decide) fun v2 H2 e2 d2 => lst_new (by show 2 ≤ 1000; decide) fun l nl => ?_)⟩
      exact k l _ _ (same2 (e0.trans (e1.trans e2)) nl) ((e0.trans (e1.trans e2)).free nl) upd_same (DtAll.keep (TK.new nl) _ (.cons (d1.same e2) (.cons d2 .nil)))
    | letT a b c =>
      obtain ⟨p', va, vb, vc, e, hB, ha, hb, hc⟩ := dt_let hv
      cases e
      refine iteF ⟨_, rfl, ixt (i := 0) hT0 rfl (eq_f rfl (by rw [h2]; rfl) ⟨_, rfl, iteT ?_⟩)⟩
      refine ⟨_, rfl, ixt (i := 1) (sqs hB e0) rfl (tup_new (K := K) (ds := [a.pd, .int 0]) (.cons (ha.same e0) (.cons (.int 0) .nil)) (by show 2 ≤ 1000; decide) fun v1 H1 e1 d1 => ?_)⟩
      refine ⟨_, rfl, ixt (i := 2) (sqs (sqs hB e0) e1) rfl (tup_new (K := K) (ds := [b.pd, .int 0]) (.cons ((hb.same e0).same e1) (.cons (.int 0) .nil)) (by show 2 ≤ 1000; decide) fun v2 H2 e2 d2 => ?_)⟩
      refine ⟨_, rfl, ixt (i := 3) (sqs (sqs (sqs hB e0) e1) e2) rfl (tup_new (K := K) (ds := [c.pd, .int 1]) (.cons (((hc.same e0).same e1).same e2) (.cons (.int 1) .nil)) (by show 2 ≤ 1000; decide) fun v3 H3 e3 d3 => lst_new (by show 3 ≤ 1000; decide) fun l nl => ?_)⟩
      have ee := e0.trans (e1.trans (e2.trans e3))
      exact k l _ _ (same2 ee nl) (ee.free nl) upd_same (DtAll.keep (TK.new nl) _ (.cons ((d1.same e2).same e3) (.cons (d2.same e3) (.cons d3 .nil))))
    | app f m x =>
      obtain ⟨p', vf, vx, e, hB, ha, hb⟩ := dt_app hv
      cases e
      refine iteF ⟨_, rfl, ixt (i := 0) hT0 rfl (eq_f rfl (by rw [h2]; rfl) ⟨_, rfl, iteF ⟨_, rfl, ixt (i := 0) hT0 rfl (eq_f rfl (by rw [h3]; rfl) ⟨_, rfl, iteT ?_⟩)⟩⟩)⟩
      refine ⟨_, rfl, ixt (i := 1) (sqs hB e0) rfl (tup_new (K := K) (ds := [f.pd, .int 0]) (.cons (ha.same e0) (.cons (.int 0) .nil)) (by show 2 ≤ 1000; decide) fun v1 H1 e1 d1 => ?_)⟩
      refine ⟨_, rfl, ixt (i := 3) (sqs (sqs hB e0) e1) rfl (tup_new (K := K) (ds := [x.pd, .int 0]) (.cons ((hb.same e0).same e1) (.cons (.int 0) .nil)) (by show 2 ≤ 1000; decide) fun v2 H2 e2 d2 => lst_new (by show 2 ≤ 1000; decide) fun l nl => ?_)⟩
      exact k l _ _ (same2 (e0.trans (e1.trans e2)) nl) ((e0.trans (e1.trans e2)).free nl) upd_same (DtAll.keep (TK.new nl) _ (.cons (d1.same e2) (.cons d2 .nil)))
    | num w n => exact iteF ⟨_, rfl, ixt (i := 0) hT0 rfl (eq_f rfl (by rw [h2]; rfl) ⟨_, rfl, iteF ⟨_, rfl, ixt (i := 0) hT0 rfl (eq_f rfl (by rw [h3]; rfl) ⟨_, rfl, iteF (lst_new (Nat.zero_le _) fun l nl => k l _ _ (same2 e0 nl) (e0.free nl) upd_same .nil)⟩)⟩⟩)⟩
    | name x => exact iteF ⟨_, rfl, ixt (i := 0) hT0 rfl (eq_f rfl (by rw [h2]; rfl) ⟨_, rfl, iteF ⟨_, rfl, ixt (i := 0) hT0 rfl (eq_f rfl (by rw [h3]; rfl) ⟨_, rfl, iteF (lst_new (Nat.zero_le _) fun l nl => k l _ _ (same2 e0 nl) (e0.free nl) upd_same .nil)⟩)⟩⟩)⟩
    | count x n => exact iteF ⟨_, rfl, ixt (i := 0) hT0 rfl (eq_f rfl (by rw [h2]; rfl) ⟨_, rfl, iteF ⟨_, rfl, ixt (i := 0) hT0 rfl (eq_f rfl (by rw [h3]; rfl) ⟨_, rfl, iteF (lst_new (Nat.zero_le _) fun l nl => k l _ _ (same2 e0 nl) (e0.free nl) upd_same .nil)⟩)⟩⟩)⟩

/-! ### _law_rt_leaves -/
theorem sc_law_rt_leaves : FnScope ["term", "ahead", "parts", "found", "part", "more"] ["term", "ahead"] (defScope s_law_rt_leaves) := ⟨rfl, rfl, rfl, by decide +kernel, rfl, by decide +kernel, by decide +kernel⟩
def spLeaves (K : PySem.W.Frag) (N : Nat) : Sp := fun vs H Q _ => ∃ (v : V) (t : Tm) (n : Int), vs = [v, .int n] ∧ Dt K H v t.pd ∧ t.wf ∧ t.depth ≤ N ∧ t.nodes ≤ 100000 ∧
  ∀ l xs H', Same H H' → H l = none → H' l = some (.lst xs) → DtAll K H' xs ((t.leaves n).map pdP) → Q (.ref l) H'
theorem ok_leaves {f : Addr} {fd : FuncData} (F : Fun K "_law_rt_leaves" "_law_rt_leaves" s_law_rt_leaves f fd) (hm : mg "_law_rt_leaves" = some (.ref f)) (b : Binds K fd ["term", "ahead"] [])
    (D_law_rt_parts : Df P w K mg base "_law_rt_parts" 1 ["term"] (spParts K)) : ∀ N, FnOk P w K mg base CX0 (N + 1) f fd ["term", "ahead"] (spLeaves K N)
  | 0 => by
    refine ⟨fun vs H Q E h => ?_, fun A outer s H args us vs Q E _ _ _ _ h => ?_⟩
    · obtain ⟨v, t, n, rfl, _⟩ := h; rfl
    · obtain ⟨v, t, n, _, _, _, h1, _⟩ := h
      have := t.depth_pos
      omega
  | N + 1 => by
    have D_law_rt_leaves : Df P w K mg base "_law_rt_leaves" (N + 1) ["term", "ahead"] (spLeaves K N) := ⟨f, fd, ok_leaves F hm b D_law_rt_parts N, hm, F.kp, b⟩
    refine F.ok sc_law_rt_leaves (fun vs H Q E h => ?_) (fun cdv A outer s H vs Q E hr h => ?_)
    · obtain ⟨v, t, n, rfl, _⟩ := h; rfl
    · obtain ⟨v, t, n, rfl, hv, wf, hd, hn, k⟩ := h
      have nd := sc_law_rt_leaves.nd
      refine ⟨_, (pss_cons (ps_par (i := 2) (j := 3) rfl nd rfl rfl (by decide) rfl rfl (pa_cons (pe_df D_law_rt_parts hr (by omega) (pa_cons (pv 0) pa_nil)) (pa_cons (pe_lstN pa_nil) pa_nil)) rfl)
      (pss_cons (ps_for PassesOwn.never rfl (pi_seq (pv 2)) (pg_tup rfl (pgs_cons (pg_name (i := 4) nd rfl (Or.inl rfl)) (pgs_cons (pg_name (i := 5) nd rfl (Or.inl rfl)) pgs_nil)))
        (pss_one (ps_set (i := 3) nd rfl (Or.inl rfl) (pe_op uAdd (pv 3) (pe_df D_law_rt_leaves hr (by omega) (pa_cons (pv 4) (pa_cons (pe_op uAdd (pv 1) (pv 5)) pa_nil)))))))
      (pss_one (ps_ret (pe_ifExp (pt_cmpR (uNe hr.units) (pv 2) (pe_lstN pa_nil) (nomark _)) (pv 3) (pe_lstN (pa_cons (pe_tupN (pa_cons (pv 0) (pa_cons (pv 1) pa_nil))) pa_nil))))))), ?_⟩
      refine ⟨_, rfl, v, t, rfl, hv, wf, fun l xs H1 e1 nl hl dl => lst_new (Nat.zero_le _) fun l0 nl0 => ⟨_, _, rfl, ?_⟩⟩
      have e1' : Same H (upd H1 l0 (.lst [])) := same2 e1 nl0
      have hl' : upd H1 l0 (.lst []) l = some (.lst xs) := (upd_ne (ne_of_none hl nl0)).trans hl
      have dl' := DtAll.keep (K := K) (TK.new (o := .lst []) nl0) _ dl
      have hl0 : upd H1 l0 (.lst []) l0 = some (.lst []) := upd_same
      have n0 : H l0 = none := e1.free nl0
      generalize upd H1 l0 (.lst []) = H2 at e1' hl' dl' hl0
      clear e1 hl dl nl0
      refine ⟨_, rfl, l, rfl, .inl ⟨⟨_, SqL.of hl'⟩, for_list (K := K) (a := l) (xs := xs)
        (fun i σ H3 => ∃ (l2 : Addr) (ys : List V) (v4 v5 : Option V), σ = [some v, some (.int n), some (.ref l), some (.ref l2), v4, v5] ∧ Same H2 H3 ∧ H l2 = none ∧ H3 l2 = some (.lst ys) ∧ DtAll K H3 ys ((partLeaves n (t.parts.take i)).map pdP))
        ⟨l0, [], none, none, rfl, Same.refl _, n0, hl0, .nil⟩ (fun i σ H3 _ ⟨_, _, _, _, _, e, _⟩ => SqL.of (e _ _ hl')) ?_ ?_⟩⟩
      · rintro i x σ H3 hx ⟨l2, ys, v4, v5, rfl, e3, nl2, hl2, dy⟩
        obtain ⟨pt, m, p, vp, hp, rfl, hT, dp⟩ := parts_at (DtAll.keep (TK.same e3) _ dl') hx
        have hmem := List.mem_of_getElem? hp
        obtain ⟨lt1, lt2⟩ := Tm.part_lt hmem
        refine ⟨p, _, rfl, hT, rfl, vp, _, rfl, .int m, _, rfl, rfl, ?_⟩
        refine ⟨_, rfl, _, rfl, _, rfl, _, rfl, add_i ⟨vp, pt, n + m, rfl, dp, Tm.part_wf wf hmem, by omega, by omega, fun l3 zs H4 e4 nl3 hl3 dz => ?_⟩⟩
        have dy4 := DtAll.keep (TK.same e4) _ dy
        have len1 : ys.length ≤ t.nodes := by rw [dy.length, List.length_map]; exact partLeaves_take_len n i
        have len2 : zs.length ≤ pt.nodes := by rw [dz.length, List.length_map]; exact pt.leaves_len _
        refine add_l (e4 _ _ hl2) hl3 (by rw [sizeLine_eq]; omega) fun q nq => ?_
        refine ⟨q, ys ++ zs, _, _, rfl, same2 (e3.trans e4) nq, ?_, upd_same, ?_⟩
        · exact (e1'.trans (e3.trans e4)).free nq
        · have : t.parts.take (i + 1) = t.parts.take i ++ [(pt, m)] := take_snoc hp
          rw [this, partLeaves_snoc, List.map_append]
          exact DtAll.keep (TK.new nq) _ (dy4.append dz)
      · rintro σ H3 ⟨l2, ys, v4, v5, rfl, e3, nl2, hl2, dy⟩
        rw [show xs.length = t.parts.length by rw [dl'.length, List.length_map], List.take_length] at dy
        refine ⟨_, rfl, lst_new (Nat.zero_le _) fun q nq => eq_n (SqL.of ((upd_ne (ne_of_none (e3 _ _ hl') nq)).trans (e3 _ _ hl'))) (SqL.of upd_same) rfl ⟨_, rfl, ?_⟩⟩
        have eq := same2 (o := .lst []) (e1'.trans e3) nq
        cases hxs : xs with
        | nil =>
          have hp : t.parts = [] := by
            have := dl'.length
            rw [hxs, List.length_map] at this
            exact List.length_eq_zero_iff.mp this.symm
          refine iteF ⟨_, rfl, _, rfl, tup_new (K := K) (ds := [t.pd, .int n]) (.cons (hv.same eq) (.cons (.int n) .nil)) (by show 2 ≤ 1000; decide) fun v1 H5 e5 d1 => lst_new (by show 1 ≤ 1000; decide) fun r nr => ?_⟩
          refine k r [v1] _ (same2 (eq.trans e5) nr) ((eq.trans e5).free nr) upd_same ?_
          rw [leaf_leaves n hp]
          exact .cons (Dt.keep (TK.new nr) _ d1) .nil
        | cons x xs' =>
          have hp : t.parts ≠ [] := fun z => by
            have := dl'.length
            rw [hxs, List.length_map, z] at this
            cases this
          rw [partLeaves_all n hp] at dy
          refine iteT ⟨_, rfl, k l2 ys _ eq nl2 ((upd_ne (ne_of_none hl2 nq)).trans hl2) (DtAll.keep (TK.new nq) _ dy)⟩
end
end RS

/-! Small6: is_small, is_capital, is_closed. -/
namespace RS
open PySem PySem.Spec PyProof.Rows L2 TL

def headIn (s : Str) (z : Str) : Bool := match cl z with
  | [] => false
  | c :: _ => decide (c ∈ cl s)
def isSm (z : Str) : Bool := isWord z && headIn cs_SMALL z
def isCap (z : Str) : Bool := isWord z && headIn cs_CAPITAL z
structure rHdW (f : Str → Bool) (vs : List V) (H : Hp) (Q : VK) : Prop where
  ex : ∃ z, vs = [.str z] ∧ z.length ≤ 100000 ∧ ∀ H', Same H H' → Q (.bl (f z)) H'
def spSm : Sp := fun vs H Q _ => rHdW isSm vs H Q
def spCap : Sp := fun vs H Q _ => rHdW isCap vs H Q
/-- a leaf that is not closed -/
def Tm.loose : Tm → Int → Bool
  | .num w k, n => decide (w ∈ (["local", "hole"] : List Str)) || (decide (w = "bound") && decide (n ≤ k))
  | _, _ => false
def Tm.closed : Tm → Int → Bool
  | .bin _ _ a b, n => a.closed n && b.closed (n + 1)
  | .letT a b c, n => a.closed n && (b.closed n && c.closed (n + 1))
  | .app f _ x, n => f.closed n && x.closed n
  | .num w k, n => !(Tm.num w k).loose n
  | .name _, _ => true
  | .count _ _, _ => true
theorem closed_parts (t : Tm) (n : Int) : t.closed n = (!t.loose n && t.parts.all fun p => p.1.closed (n + p.2)) := by
  cases t <;> simp [Tm.closed, Tm.loose, Tm.parts]
def Tm.numOf : Tm → Int
  | .num _ k => k
  | _ => 0
theorem loose_eq {u : Tm} (wf : u.wf) (n : Int) : u.loose n = (decide (u.word ∈ (["local", "hole"] : List Str)) || (decide (u.word = "bound") && decide (n ≤ u.numOf))) := by
  cases u with
  | num w k => rfl
  | name x =>
    have e1 : decide (("name" : Str) ∈ (["local", "hole"] : List Str)) = false := by decide +kernel
    have e2 : decide (("name" : Str) = "bound") = false := by decide +kernel
    show false = (decide (("name" : Str) ∈ (["local", "hole"] : List Str)) || (decide (("name" : Str) = "bound") && _))
    rw [e1, e2]; rfl
  | count x k =>
    have e1 : decide (("count" : Str) ∈ (["local", "hole"] : List Str)) = false := by decide +kernel
    have e2 : decide (("count" : Str) = "bound") = false := by decide +kernel
    show false = (decide (("count" : Str) ∈ (["local", "hole"] : List Str)) || (decide (("count" : Str) = "bound") && _))
    rw [e1, e2]; rfl
  | bin w m a b =>
    have e : ∀ w : Str, (w = "pi" ∨ w = "fun") → decide (w ∈ (["local", "hole"] : List Str)) = false ∧ decide (w = "bound") = false := fun w h => by
      rcases h with rfl | rfl <;> exact ⟨by decide +kernel, by decide +kernel⟩
    obtain ⟨e1, e2⟩ := e w wf.1
    show false = (decide (w ∈ (["local", "hole"] : List Str)) || (decide (w = "bound") && _))
    rw [e1, e2]; rfl
  | letT a b c =>
    have e1 : decide (("let" : Str) ∈ (["local", "hole"] : List Str)) = false := by decide +kernel
    have e2 : decide (("let" : Str) = "bound") = false := by decide +kernel
    show false = (decide (("let" : Str) ∈ (["local", "hole"] : List Str)) || (decide (("let" : Str) = "bound") && _))
    rw [e1, e2]; rfl
  | app f m x =>
    have e1 : decide (("app" : Str) ∈ (["local", "hole"] : List Str)) = false := by decide +kernel
    have e2 : decide (("app" : Str) = "bound") = false := by decide +kernel
    show false = (decide (("app" : Str) ∈ (["local", "hole"] : List Str)) || (decide (("app" : Str) = "bound") && _))
    rw [e1, e2]; rfl
theorem bound_num {u : Tm} (wf : u.wf) (h : u.word = "bound") : ∃ k, u = .num "bound" k := by
  cases u with
  | num w k => exact ⟨k, by rw [show w = "bound" from h]⟩
  | name x => exact absurd (show ("name" : Str) = "bound" from h) (by decide +kernel)
  | count x k => exact absurd (show ("count" : Str) = "bound" from h) (by decide +kernel)
  | bin w m a b =>
    have h : w = "bound" := h
    rcases wf.1 with q | q <;> rw [q] at h <;> exact absurd h (by decide +kernel)
  | letT a b c => exact absurd (show ("let" : Str) = "bound" from h) (by decide +kernel)
  | app f m x => exact absurd (show ("app" : Str) = "bound" from h) (by decide +kernel)
structure rClo (K : PySem.W.Frag) (vs : List V) (H : Hp) (Q : VK) : Prop where
  ex : ∃ (v : V) (t : Tm), vs = [v] ∧ Dt K H v t.pd ∧ t.wf ∧ t.nodes ≤ 1000 ∧ ∀ H', Same H H' → Q (.bl (t.closed 0)) H'
def spClo (K : PySem.W.Frag) : Sp := fun vs H Q _ => rClo K vs H Q
theorem same_mut {H H1 : Hp} {l : Addr} {o : HO} (e : Same H H1) (h : H l = none) : Same H (upd H1 l o) := fun b u q => by rw [upd_ne (ne_of_none q h)]; exact e b u q
def sumP (ts : List (Tm × Int)) : Nat := sumN (ts.map (·.1))
theorem pop_last {K : PySem.W.Frag} {l : Addr} {ys : List V} {y : V} {H : Hp} {Q : VK} (hl : H l = some (.lst (ys ++ [y]))) (q : Q y (upd H l (.lst ys))) : tyV K "list" (.ref l) H ∧ rPop (.ref l) [] H Q := by
  refine ⟨.inl ⟨rfl, _, SqL.of hl⟩, l, ys ++ [y], y, rfl, rfl, hl, by simp, ?_⟩
  rw [List.dropLast_concat]
  exact q
theorem DtAll.snocI {K : PySem.W.Frag} {H : Hp} : ∀ {xs : List V} {ds : List PyData} {d : PyData}, DtAll K H xs (ds ++ [d]) → ∃ ys y, xs = ys ++ [y] ∧ DtAll K H ys ds ∧ Dt K H y d
  | xs, [], d, h => by
    obtain ⟨v, ws, rfl, h1, r⟩ := DtAll.consI (show DtAll K H xs (d :: []) from h)
    obtain rfl := r.nilI
    exact ⟨[], v, rfl, .nil, h1⟩
  | xs, e :: ds, d, h => by
    obtain ⟨v, ws, rfl, h1, r⟩ := DtAll.consI (show DtAll K H xs (e :: (ds ++ [d])) from h)
    obtain ⟨ys, y, rfl, h2, h3⟩ := DtAll.snocI r
    exact ⟨v :: ys, y, rfl, .cons h1 h2, h3⟩
section
variable {P : Program} {w : World} {K : PySem.W.Frag} {mg : Str → Option Value} {base : Heap}
theorem sc_is_small : FnScope ["value"] ["value"] (defScope s_is_small) := ⟨rfl, rfl, rfl, by decide +kernel, rfl, by decide +kernel, by decide +kernel⟩
theorem ok_is_small {f : Addr} {fd : FuncData} {t1 : Tok} (F : Fun K "is_small" "is_small" s_is_small f fd) (g_SMALL : mg "SMALL" = some (.str cs_SMALL t1)) (Dis_word : Df P w K mg base "is_word" 1 ["value"] (spWord K)) : FnOk P w K mg base CX0 2 f fd ["value"] spSm := by
  refine F.ok sc_is_small (fun vs H Q E h => ?_) (fun cdv A outer s H vs Q E hr h => ?_)
  · obtain ⟨z, rfl, _⟩ := h.ex; rfl
  · obtain ⟨z, rfl, hz, k⟩ := h.ex
    clear h
    have nd := sc_is_small.nd
    refine ⟨_, (pss_one (ps_ret (pe_and (pe_df Dis_word hr (by omega) (pa_cons (pv 0) pa_nil)) (pe_one (pe_cmpR uIn (pe_ix ix_seq (pv 0) pe_int (fun _ _ => rfl)) (pe_glob (v := .str cs_SMALL) rfl g_SMALL ⟨_, rfl⟩) (by rfl)))))), ?_⟩
    refine ⟨_, rfl, ⟨.str z, .str z, rfl, .str z, fun y e => by cases e; exact hz, fun H1 e1 => ?_⟩⟩
    refine ⟨_, rfl, ?_⟩
    cases hw : wordB (.str z) with
    | false =>
      have hw : isWord z = false := hw
      refine iteF ?_
      have e : isSm z = false := by unfold isSm; rw [hw]; rfl
      rw [e] at k
      exact k _ e1
    | true =>
      have hw : isWord z = true := hw
      refine iteT ?_
      obtain ⟨c, cs, e, _⟩ := word_spec hw
      refine ⟨_, rfl, ix_s (i := 0) hz (by rw [e]; rfl) (in_sg (Bool.false_xor _) ?_)⟩
      have e2 : isSm z = decide (c ∈ cl cs_SMALL) := by unfold isSm headIn; rw [hw, e]; rfl
      rw [e2] at k
      exact k _ e1
theorem sc_is_capital : FnScope ["value"] ["value"] (defScope s_is_capital) := ⟨rfl, rfl, rfl, by decide +kernel, rfl, by decide +kernel, by decide +kernel⟩
theorem ok_is_capital {f : Addr} {fd : FuncData} {t1 : Tok} (F : Fun K "is_capital" "is_capital" s_is_capital f fd) (g_CAPITAL : mg "CAPITAL" = some (.str cs_CAPITAL t1)) (Dis_word : Df P w K mg base "is_word" 1 ["value"] (spWord K)) : FnOk P w K mg base CX0 2 f fd ["value"] spCap := by
  refine F.ok sc_is_capital (fun vs H Q E h => ?_) (fun cdv A outer s H vs Q E hr h => ?_)
  · obtain ⟨z, rfl, _⟩ := h.ex; rfl
  · obtain ⟨z, rfl, hz, k⟩ := h.ex
    clear h
    have nd := sc_is_capital.nd
    refine ⟨_, (pss_one (ps_ret (pe_and (pe_df Dis_word hr (by omega) (pa_cons (pv 0) pa_nil)) (pe_one (pe_cmpR uIn (pe_ix ix_seq (pv 0) pe_int (fun _ _ => rfl)) (pe_glob (v := .str cs_CAPITAL) rfl g_CAPITAL ⟨_, rfl⟩) (by rfl)))))), ?_⟩
    refine ⟨_, rfl, ⟨.str z, .str z, rfl, .str z, fun y e => by cases e; exact hz, fun H1 e1 => ?_⟩⟩
    refine ⟨_, rfl, ?_⟩
    cases hw : wordB (.str z) with
    | false =>
      have hw : isWord z = false := hw
      refine iteF ?_
      have e : isCap z = false := by unfold isCap; rw [hw]; rfl
      rw [e] at k
      exact k _ e1
    | true =>
      have hw : isWord z = true := hw
      refine iteT ?_
      obtain ⟨c, cs, e, _⟩ := word_spec hw
      refine ⟨_, rfl, ix_s (i := 0) hz (by rw [e]; rfl) (in_sg (Bool.false_xor _) ?_)⟩
      have e2 : isCap z = decide (c ∈ cl cs_CAPITAL) := by unfold isCap headIn; rw [hw, e]; rfl
      rw [e2] at k
      exact k _ e1
theorem sumP_app (a b : List (Tm × Int)) : sumP (a ++ b) = sumP a + sumP b := by unfold sumP; rw [List.map_append, sumN_app]
theorem len_sumP (a : List (Tm × Int)) : a.length ≤ sumP a := by have := len_sumN (a.map (·.1)); rwa [List.length_map] at this
def addP (n : Int) (ps : List (Tm × Int)) : List (Tm × Int) := ps.map fun p => (p.1, n + p.2)
theorem sumP_add (n : Int) (t : Tm) : sumP (addP n t.parts) + 1 = t.nodes := by
  have e : (addP n t.parts).map (·.1) = pts t := by unfold addP pts; rw [List.map_map]; rfl
  unfold sumP
  rw [e]; exact pts_nodes t
theorem sc_is_closed : FnScope ["term", "left", "one", "ahead", "part", "more"] ["term"] (defScope s_is_closed) := ⟨rfl, rfl, rfl, by decide +kernel, rfl, by decide +kernel, by decide +kernel⟩
theorem ok_is_closed {f : Addr} {fd : FuncData} (F : Fun K "is_closed" "is_closed" s_is_closed f fd) (Down_parts : Df P w K mg base "own_parts" 1 ["term"] (spParts K)) : FnOk P w K mg base CX0 2 f fd ["term"] (spClo K) := by
  refine F.ok sc_is_closed (fun vs H Q E h => ?_) (fun cdv A outer s H vs Q E hr h => ?_)
  · obtain ⟨v, t, rfl, _⟩ := h.ex; rfl
  · obtain ⟨v, t, rfl, hv, wf, hn, k⟩ := h.ex
    clear h
    have nd := sc_is_closed.nd
    refine ⟨_, (pss_cons (ps_set (i := 1) nd rfl (Or.inl rfl) (pe_lstN (pa_cons (pe_tupN (pa_cons (pv 0) (pa_cons pe_int pa_nil))) pa_nil)))
      (pss_cons (ps_while PassesOwn.never (pt_cmpR (uNe hr.units) (pv 1) (pe_lstN pa_nil) (nomark _))
        (pss_cons (ps_asg (pe_bm0 PySem.F.plainAttrs_list PySem.F.slot_list_pop PySem.F.type_list_pop mt_pop (pv 1)) (pg_tup rfl (pgs_cons (pg_name (i := 2) nd rfl (Or.inl rfl)) (pgs_cons (pg_name (i := 3) nd rfl (Or.inr rfl)) pgs_nil))))
        (pss_cons (ps_if (pt_w (PW.pt (pw_or (pt_cmpR uIn (pe_ix ix_seq (pv 2) pe_int (fun _ _ => rfl)) (pe_tupN (pa_cons pe_str (pa_cons pe_str pa_nil))) (by rfl)) (pw_or1 (pt_w (PW.pt (pw_and (pt_cmpR (uEq hr.units) (pe_ix ix_seq (pv 2) pe_int (fun _ _ => rfl)) pe_str (nomark _)) (pw_and1 (pt_cmpR op_ge (pe_ix ix_seq (pv 2) pe_int (fun _ _ => rfl)) (pv 3) (nomark _))))))))))
          (pss_one (ps_ret pe_bl))
          pss_nil)
        (pss_one (ps_set (i := 1) nd rfl (Or.inl rfl) (pe_op uAdd (pv 1) (pe_lc (own := [("part", 4), ("more", 5)]) (g := gTup K 2 (gCons (gName 4) (gCons (gName 5) gNil))) rfl nd (pi_seq (pe_df Down_parts hr (by omega) (pa_cons (pv 2) pa_nil))) (blkOk_by (own := [("part", 4), ("more", 5)]) (N := ["term", "left", "one", "ahead", "part", "more"]) (sc := defScope s_is_closed) (by decide +kernel)) (fun _ _ _ _ _ => (pg_tup rfl (pgs_cons (pg_name (i := 4) nd rfl (Or.inl rfl)) (pgs_cons (pg_name (i := 5) nd rfl (Or.inl rfl)) pgs_nil)))) (fun _ _ _ _ _ => pts_nil) (fun _ _ _ _ _ => (pe_tupN (pa_cons (pv 4) (pa_cons (pe_op (uAddK (K := K) rfl) (pv 3) (pv 5)) pa_nil)))))))))))
      (pss_one (ps_ret pe_bl)))), ?_⟩
    refine ⟨_, rfl, tup_new (K := K) (ds := [t.pd, .int 0]) (.cons hv (.cons (.int 0) .nil)) (by show 2 ≤ 1000; decide) fun v0 H0 e0 d0 => lst_new (by show 1 ≤ 1000; decide) fun l0 nl0 => ?_⟩
    refine ⟨fun m σ H1 => ∃ (l : Addr) (st : List (Tm × Int)) (xs : List V) (v2 v3 v4 v5 : Option V), σ = [some v, some (.ref l), v2, v3, v4, v5] ∧ Same H H1 ∧ H l = none ∧ H1 l = some (.lst xs) ∧ DtAll K H1 xs (st.map pdP) ∧
      (∀ u ∈ st, u.1.wf) ∧ (st.all fun p => p.1.closed p.2) = t.closed 0 ∧ sumP st ≤ 1000 ∧ m = sumP st,
      ⟨_, l0, [(t, 0)], [v0], none, none, none, none, rfl, same2 e0 nl0, e0.free nl0, upd_same, .cons (Dt.keep (TK.new nl0) _ d0) .nil, by simpa using wf, by simp, by simpa [sumP, sumN] using hn, rfl⟩, ?_⟩
    rintro m σ H1 ⟨l, st, xs, v2, v3, v4, v5, rfl, e1, nl, hl, dx, hwf, hcl, hsum, rfl⟩
    refine ⟨_, rfl, lst_new (Nat.zero_le _) fun q nq => eq_n (SqL.of ((upd_ne (ne_of_none hl nq)).trans hl)) (SqL.of upd_same) (b := !xs.isEmpty) (by cases xs <;> rfl) ⟨_, rfl, ?_⟩⟩
    have e2 : Same H (upd H1 q (.lst [])) := same2 e1 nq
    have hl2 : upd H1 q (.lst []) l = some (.lst xs) := (upd_ne (ne_of_none hl nq)).trans hl
    have dx2 := DtAll.keep (K := K) (TK.new (o := .lst []) nq) _ dx
    generalize upd H1 q (.lst []) = H2 at e2 hl2 dx2 ⊢
    clear e1 hl dx nq
    rcases List.eq_nil_or_concat st with rfl | ⟨st, ⟨u, n⟩, rfl⟩
    · obtain rfl := dx2.nilI
      refine iteF ?_
      rw [← hcl] at k
      exact k _ e2
    · rw [List.concat_eq_append] at dx2 hwf hcl hsum ⊢
      rw [List.map_append] at dx2
      obtain ⟨ys, y, rfl, dy, du⟩ := dx2.snocI
      have wfu : u.wf := hwf (u, n) (by simp)
      obtain ⟨py, zs, rfl, hTy, rz⟩ := Dt.tupI (show Dt K H2 y (.tuple [u.pd, .int n]) from du)
      obtain ⟨vu, zs, rfl, du1, rz⟩ := rz.consI
      obtain ⟨v2', zs, rfl, du2, rz⟩ := rz.consI
      obtain rfl := rz.nilI; obtain rfl := du2.intI
      have hbe : (!(ys ++ [V.ref py]).isEmpty) = true := by cases ys <;> rfl
      rw [hbe]
      refine iteT ⟨_, fun _ _ h => h, ?_⟩
      refine ⟨_, rfl, pop_last hl2 ⟨py, _, rfl, TK.lst hl2 _ _ hTy, rfl, vu, _, rfl, .int n, _, rfl, rfl, ?_⟩⟩
      have e3 : Same H (upd H2 l (.lst ys)) := same_mut e2 nl
      have hl3 : upd H2 l (.lst ys) l = some (.lst ys) := upd_same
      have du3 := Dt.keep (TK.lst (o := .lst ys) hl2) _ du1
      have dy3 := DtAll.keep (K := K) (TK.lst (o := .lst ys) hl2) _ dy
      generalize upd H2 l (.lst ys) = H3 at e3 hl3 du3 dy3 ⊢
      clear e2 hl2 dy du hTy du1
      obtain ⟨p, ws, rfl, hT⟩ := dt_word du3
      rw [List.all_append] at hcl
      have hcl : ((st.all fun p => p.1.closed p.2) && u.closed n) = t.closed 0 := by simpa using hcl
      rw [sumP_app] at hsum ⊢
      have hs1 : sumP [(u, n)] = u.nodes := by simp [sumP, sumN]
      refine ws_val (u.loose n) ((loose_eq wfu n) ▸ ValS.or (fun Q' q => ⟨_, rfl, ixt (i := 0) hT rfl (tup_at (by show 2 ≤ 1000; decide) fun q1 nq => in_t (SqT.of upd_same) rfl rfl (b := decide (u.word ∈ (["local", "hole"] : List Str))) ((Bool.false_xor _).trans (inV_str u.word ["local", "hole"])) ⟨_, rfl, q _ (same_new nq)⟩)⟩)
        fun _ H4 e4 => ws_in (ValS.and (a := decide (u.word = "bound")) (b := decide (n ≤ u.numOf)) (fun Q' q => ⟨_, rfl, ixt (i := 0) (sqs hT e4) rfl (eq_str (Bool.false_xor _) ⟨_, rfl, q _ (Same.refl _)⟩)⟩) fun hb H5 e5 Q' q => ?_)) (fun H4 e4 => ite2 (fun hb => ?_) (fun hb => ?_))
      · obtain ⟨kk, rfl⟩ := bound_num wfu (of_decide_eq_true hb)
        obtain ⟨p', e, hB⟩ := dt_num du3
        cases e
        exact ⟨_, rfl, ixt (i := 1) (sqs (sqs hB e4) e5) rfl ⟨_, rfl, _, _, rfl, rfl, _, rfl, q _ (Same.refl _)⟩⟩
      · have : t.closed 0 = false := by rw [← hcl, closed_parts u n, hb]; simp
        rw [this] at k
        exact k _ (e3.trans e4)
      · have hl4 := e4 _ _ hl3
        have du4 := du3.same e4
        have dy4 := DtAll.keep (TK.same (K := K) e4) _ dy3
        replace e4 := e3.trans e4
        clear e3 hl3 du3 dy3 hT
        refine ⟨_, rfl, _, rfl, .ref p, u, rfl, du4, wfu, fun la zs H5 e5 nla hla dz => ?_⟩
        have dy5 := DtAll.keep (K := K) (TK.same e5) _ dy4
        have hl5 : H5 l = some (.lst ys) := e5 _ _ hl4
        replace e5 := e4.trans e5
        clear e4 hl4 dy4
        have l3 : u.parts.length ≤ 3 := by cases u <;> simp [Tm.parts]
        refine ⟨la, rfl, .inl ⟨⟨_, SqL.of hla⟩, fun D nD => lc_list (K := K) (a := la) (xs := zs) (fun i H6 => ∃ ws, Same H5 H6 ∧ H6 D = some (.lst ws) ∧ DtAll K H6 ws ((addP n (u.parts.take i)).map pdP))
          ⟨[], same_new nD, upd_same, .nil⟩ (fun i H6 _ ⟨_, e, _⟩ => SqL.of (e _ _ hla)) (fun i x H6 hx ⟨ws, e6, hD, dw⟩ => ?_) (fun H6 ⟨ws, e6, hD, dw⟩ => ?_)⟩⟩
        · obtain ⟨pt, m2, p2, vp, hp, rfl, hT, dvp⟩ := parts_at (DtAll.keep (TK.same e6) _ dz) hx
          refine ⟨p2, _, rfl, hT, rfl, vp, _, rfl, .int m2, _, rfl, rfl, rfl, _, rfl, _, rfl, _, rfl, add_i (tup_at (by show 2 ≤ 1000; decide) fun r nr => ⟨ws, (upd_ne (ne_of_none hD nr)).trans hD, ?_, ws ++ [.ref r], ?_, upd_same, ?_⟩)⟩
          · have := dw.length
            rw [List.length_map] at this
            unfold addP at this
            rw [List.length_map, List.length_take] at this
            rw [sizeLine_eq]; omega
          · exact same_mut (same2 e6 nr) nD
          · have : u.parts.take (i + 1) = u.parts.take i ++ [(pt, m2)] := by rw [List.take_succ, hp]; rfl
            have hDr : upd H6 r (.tup [vp, .int (n + m2)]) D = some (.lst ws) := (upd_ne (ne_of_none hD nr)).trans hD
            rw [this]
            unfold addP at dw ⊢
            rw [List.map_append, List.map_append]
            refine DtAll.append (DtAll.keep ((TK.new nr).trans (TK.lst hDr)) _ dw) (.cons ?_ .nil)
            exact Dt.keep (TK.lst hDr) _ (show Dt K _ (.ref r) (.tuple [pt.pd, .int (n + m2)]) from .tup (SqT.of upd_same) (.cons (Dt.keep (TK.new nr) _ dvp) (.cons (.int _) .nil)))
        · rw [show zs.length = u.parts.length by rw [dz.length, List.length_map], List.take_length] at dw
          have ly := dy5.length
          have lw := dw.length
          rw [List.length_map] at ly lw
          have lp : (addP n u.parts).length = u.parts.length := by unfold addP; rw [List.length_map]
          have ls := len_sumP st
          refine add_l (e6 _ _ hl5) hD (by rw [sizeLine_eq]; omega) fun r nr => ?_
          have sadd := sumP_add n u
          refine ⟨sumP (st ++ addP n u.parts), by rw [sumP_app, hs1]; omega, r, st ++ addP n u.parts, _, _, _, _, _, rfl, same2 (e5.trans e6) nr, (e5.trans e6).free nr, upd_same, ?_, ?_, ?_, ?_, rfl⟩
          · rw [List.map_append]
            exact DtAll.keep (TK.new nr) _ ((DtAll.keep (TK.same e6) _ dy5).append dw)
          · intro x hx
            rcases List.mem_append.mp hx with hx | hx
            · exact hwf x (List.mem_append_left _ hx)
            · obtain ⟨q, hq, rfl⟩ := List.mem_map.mp hx
              exact pts_wf wfu q.1 (List.mem_map.mpr ⟨q, hq, rfl⟩)
          · have hb : u.loose n = false := eq_false_of_ne_true hb
            rw [List.all_append, ← hcl, closed_parts u n, hb]
            unfold addP
            rw [List.all_map]
            rfl
          · rw [sumP_app]; omega
end
end RS

/-! Plain6: declarations, their rows, and how rows are read, in plain Lean. -/
namespace RS
open PySem PySem.Spec PyProof.Rows L2 TL

/-! ### a row and its words -/
abbrev wsOf (z : Str) : List Str := Txt.split z " "
theorem blank_eq : (" " : Str) = ⟨#[32]⟩ := by decide +kernel
theorem ws_free (z : Str) : ∀ p ∈ wsOf z, 32 ∉ cl p := by
  have := PySem.StrLaws.split_free z 32
  rw [← blank_eq] at this
  exact this
theorem ws_ne (z : Str) : wsOf z ≠ [] := fun e => by
  have := split_pos z " "
  rw [show Txt.split z " " = [] from e] at this
  cases this
theorem ws_join (z : Str) : Txt.join " " (wsOf z) = z := by rw [join_eq]; exact PySem.StrLaws.join_split z " "
theorem join_ws {ws : List Str} (hne : ws ≠ []) (h : ∀ p ∈ ws, 32 ∉ cl p) : wsOf (Txt.join " " ws) = ws :=
  split_join (y := " ") (s := 32) (S := []) (by decide +kernel) (by decide +kernel) hne h
theorem cl_join2 (a b : Str) (l : List Str) : cl (Txt.join " " (a :: b :: l)) = cl a ++ 32 :: cl (Txt.join " " (b :: l)) := by
  rw [join_eq, join_eq]
  have e1 : cl (Str.join " " (a :: b :: l)) = joinL [32] ((a :: b :: l).map cl) := by
    have := tl_join " " (a :: b :: l)
    rw [show tl (" " : Str) = [32] from sp_cl] at this
    exact this
  have e2 : cl (Str.join " " (b :: l)) = joinL [32] ((b :: l).map cl) := by
    have := tl_join " " (b :: l)
    rw [show tl (" " : Str) = [32] from sp_cl] at this
    exact this
  rw [e1, e2]
  rfl
theorem join_one (a : Str) : Txt.join " " [a] = a := by rw [join_eq]; rfl
/-- words that are read behind k others -/
def tws (z : Str) (k : Nat) : List Str := wsOf (Txt.join " " ((wsOf z).drop k))
theorem tws_eq (z : Str) (k : Nat) : tws z k = if (wsOf z).drop k = [] then ([""] : List Str) else (wsOf z).drop k := by
  unfold tws
  by_cases h : (wsOf z).drop k = []
  · rw [if_pos h, h]; exact split_empty
  · rw [if_neg h]
    exact join_ws h fun p hp => ws_free z p (List.mem_of_mem_drop hp)
def tbz (z : Str) (k : Nat) : Option Tm := match readT (tws z k) with
  | .ok t => some t
  | .error _ => none
theorem readT_empty : readT ([""] : List Str) = .error 0 := by rfl
theorem tbz_some {z : Str} {k : Nat} {t : Tm} (h : tbz z k = some t) : t.wf ∧ (wsOf z).drop k = cwords t := by
  unfold tbz at h
  cases e : readT (tws z k) with
  | error m => rw [e] at h; cases h
  | ok u =>
    rw [e] at h
    cases h
    rw [tws_eq] at e
    by_cases hd : (wsOf z).drop k = []
    · rw [if_pos hd, readT_empty] at e; cases e
    · rw [if_neg hd] at e
      obtain ⟨h1, h2⟩ := readT_words e
      exact ⟨h1, h2.symm⟩
theorem tbz_back {z : Str} {k : Nat} {t : Tm} (h : t.wf) (e : (wsOf z).drop k = cwords t) : tbz z k = some t := by
  unfold tbz
  rw [tws_eq, e, if_neg (cwords_ne t), readT_back h]
/-- a row that begins with a word and a blank -/
theorem first_word {z p : Str} {k : Nat} (hp : 32 ∉ cl p) (hk : (cl p).length + 1 = k) (h : cutS z none (some (k : Int)) = p ++ " ") : ∃ b l, wsOf z = p :: b :: l := by
  have hc := cutS_to z k
  rw [h, cl_app, sp_cl] at hc
  have hz : cl z = cl p ++ 32 :: (cl z).drop k := by
    have := (List.take_append_drop k (cl z)).symm
    rw [← hc] at this
    rw [List.append_assoc] at this
    exact this
  match e : wsOf z, ws_ne z with
  | [a], _ =>
    exfalso
    have e2 := ws_join z
    rw [e, join_one] at e2
    have := ws_free z a (by rw [e]; exact List.mem_cons_self)
    rw [e2, hz] at this
    exact this (by simp)
  | a :: b :: l, _ =>
    have e2 := ws_join z
    rw [e] at e2
    have ha := ws_free z a (by rw [e]; exact List.mem_cons_self)
    have e3 : cl z = cl a ++ 32 :: cl (Txt.join " " (b :: l)) := by rw [← cl_join2, e2]
    have key : ∀ (x y u v : List Nat), 32 ∉ x → 32 ∉ y → x ++ 32 :: u = y ++ 32 :: v → x = y := by
      intro x
      induction x with
      | nil =>
        intro y u v _ hy e
        cases y with
        | nil => rfl
        | cons c y => rw [List.nil_append, List.cons_append] at e; injection e with e _; exact absurd List.mem_cons_self (e ▸ hy)
      | cons c x ih =>
        intro y u v hx hy e
        cases y with
        | nil => rw [List.nil_append, List.cons_append] at e; injection e with e _; exact absurd List.mem_cons_self (e ▸ hx)
        | cons d y =>
          rw [List.cons_append, List.cons_append] at e
          injection e with e1 e2
          rw [e1, ih y u v (fun h => hx (List.mem_cons_of_mem _ h)) (fun h => hy (List.mem_cons_of_mem _ h)) e2]
    have : cl a = cl p := key _ _ _ _ ha hp (e3.symm.trans hz)
    exact ⟨b, l, by rw [str_ext this]⟩
theorem cut_join {p b : Str} {l : List Str} {k : Nat} (hk : (cl p).length + 1 = k) : cutS (Txt.join " " (p :: b :: l)) none (some (k : Int)) = p ++ " " := by
  refine str_ext ?_
  rw [cutS_to, cl_join2, cl_app, sp_cl, ← hk]
  rw [List.take_append, List.take_of_length_le (Nat.le_succ _)]
  simp

/-! ### trees, declarations -/
inductive Tr where
  | barred
  | leaf (t : Tm)
  | split (p : Nat) (bs : List Tr)
mutual
def Tr.pd : Tr → PyData
  | .barred => .none
  | .leaf t => .tuple [.str "leaf", t.pd]
  | .split p bs => .tuple [.str "split", .int (p : Nat), .tuple (pdL bs)]
def pdL : List Tr → List PyData
  | [] => []
  | b :: bs => b.pd :: pdL bs
end
theorem pdL_map : ∀ bs : List Tr, pdL bs = bs.map Tr.pd
  | [] => by unfold pdL; rfl
  | b :: bs => by unfold pdL; rw [pdL_map bs]; rfl
abbrev row (ws : List Str) : Str := Txt.join " " ws
mutual
def Tr.rows : Tr → List Str
  | .barred => ["barred"]
  | .leaf t => [row ("leaf" :: cwords t)]
  | .split p bs => row ["split", numS p, numS bs.length] :: rowsL bs
def rowsL : List Tr → List Str
  | [] => []
  | b :: bs => b.rows ++ rowsL bs
end
theorem rowsL_map : ∀ bs : List Tr, rowsL bs = bs.flatMap Tr.rows
  | [] => by unfold rowsL; rfl
  | b :: bs => by unfold rowsL; rw [rowsL_map bs]; rfl
/-- a right term that a row may hold -/
def tmOk (t : Tm) : Prop := t.wf ∧ (cwords t).length ≤ 100
mutual
def Tr.wf : Tr → Prop
  | .barred => True
  | .leaf t => tmOk t
  | .split p bs => p ≤ 1000000 ∧ bs.length ≤ 1000000 ∧ wfL bs
def wfL : List Tr → Prop
  | [] => True
  | b :: bs => b.wf ∧ wfL bs
end
theorem wfL_iff : ∀ bs : List Tr, wfL bs ↔ ∀ b ∈ bs, b.wf
  | [] => by unfold wfL; simp
  | b :: bs => by unfold wfL; rw [wfL_iff bs]; simp
inductive Dcl where
  | kind (x : Str) (many : Nat) (ty : Tm) (mk : List (Str × Tm))
  | fn (x : Str) (ty : Tm) (many : Nat) (at_ : Option Nat) (tree : Tr) (shut : Bool)
def atD : Option Nat → PyData
  | none => .none
  | some a => .int (a : Nat)
def mkD (p : Str × Tm) : PyData := .tuple [.str p.1, p.2.pd]
def Dcl.pd : Dcl → PyData
  | .kind x many ty mk => .tuple [.str "kind", .str x, .int (many : Nat), ty.pd, .tuple (mk.map mkD)]
  | .fn x ty many at_ tree shut => .tuple [.str "function", .str x, ty.pd, .int (many : Nat), atD at_, tree.pd, .bool shut]
def atS : Option Nat → Str
  | none => "none"
  | some a => numS a
def shutS (b : Bool) : Str := if b = true then "shut" else "open"
def mkR (p : Str × Tm) : Str := row ("maker" :: p.1 :: cwords p.2)
def Dcl.rows : Dcl → List Str
  | .kind x many ty mk => row ["kind", x, numS many, numS mk.length] :: row ("type" :: cwords ty) :: mk.map mkR
  | .fn x ty many at_ tree shut => row ["function", x, numS many, atS at_, shutS shut] :: row ("type" :: cwords ty) :: tree.rows
def cloOk (t : Tm) : Prop := tmOk t ∧ t.closed 0 = true
def Dcl.wf : Dcl → Prop
  | .kind x many ty mk => isCap x = true ∧ many ≤ 60 ∧ cloOk ty ∧ mk.length ≤ 1000000 ∧ ∀ p ∈ mk, isCap p.1 = true ∧ cloOk p.2
  | .fn x ty many at_ tree _ => isSm x = true ∧ many ≤ 60 ∧ cloOk ty ∧ (∀ a, at_ = some a → a < many) ∧ tree.wf ∧ tree ≠ .barred
/-! ### how they are read -/
structure Op where
  p : Nat
  m : Nat
  bs : List Tr
def closeO : Tr → List Op → Tr ⊕ List Op
  | t, [] => .inl t
  | t, o :: os => if o.bs.length + 1 < o.m then .inr (⟨o.p, o.m, o.bs ++ [t]⟩ :: os) else closeO (.split o.p (o.bs ++ [t])) os
def rowOf (z : Str) (e : Bool) : Option (Tr ⊕ Op) :=
  if (wsOf z).getD 0 "" = "split" then
    if (wsOf z).length = 3 then match readNum ((wsOf z).getD 1 ""), readNum ((wsOf z).getD 2 "") with
      | some p, some m => if p ≤ 1000000 ∧ m ≤ 1000000 then some (if 0 < m then .inr ⟨p, m, []⟩ else .inl (.split p [])) else none
      | _, _ => none
    else none
  else if (wsOf z).getD 0 "" = "leaf" then match tbz z 1 with
    | some t => some (.inl (.leaf t))
    | none => none
  else if wsOf z = (["barred"] : List Str) ∧ e = false then some (.inl .barred) else none
def rdT : List Str → Nat → List Op → Got (Tr × Nat)
  | [], n, _ => .error n
  | z :: rs, n, os => match rowOf z os.isEmpty with
    | none => .error n
    | some (.inr o) => rdT rs (n + 1) (o :: os)
    | some (.inl t) => match closeO t os with
      | .inl t' => .ok (t', n + 1)
      | .inr os' => rdT rs (n + 1) os'
def rdTy : List Str → Option Tm
  | [] => none
  | z :: _ => if cutS z none (some (5 : Nat)) = "type " then match tbz z 1 with
      | some t => if t.closed 0 = true then some t else none
      | none => none
    else none
def rdM : List Str → Nat → Nat → Got (List (Str × Tm))
  | _, _, 0 => .ok []
  | [], n, _ + 1 => .error n
  | z :: rs, n, k + 1 => if cutS z none (some (6 : Nat)) = "maker " ∧ isCap ((wsOf z).getD 1 "") = true then match tbz z 2 with
      | some t => if t.closed 0 = true then (match rdM rs (n + 1) k with
          | .ok ms => .ok (((wsOf z).getD 1 "", t) :: ms)
          | .error j => .error j) else .error n
      | none => .error n
    else .error n
def kindHd (ws : List Str) : Bool := decide (ws.length = 4) && (decide (ws.getD 0 "" = "kind") && isCap (ws.getD 1 ""))
def rdK (z : Str) (rs : List Str) (n : Nat) : Got (Dcl × Nat) :=
  if kindHd (wsOf z) = true then match readNum ((wsOf z).getD 2 ""), readNum ((wsOf z).getD 3 "") with
    | some many, some mk => if many ≤ 60 then match rdTy rs with
        | some ty => match rdM (rs.drop 1) (n + 2) mk with
          | .ok ms => .ok (.kind ((wsOf z).getD 1 "") many ty ms, n + 2 + mk)
          | .error k => .error k
        | none => .error (n + 1)
      else .error n
    | _, _ => .error n
  else .error n
def fnHd (ws : List Str) : Bool := decide (ws.length = 5) && (decide (ws.getD 0 "" = "function") && (isSm (ws.getD 1 "") && decide (ws.getD 4 "" ∈ (["shut", "open"] : List Str))))
def atOf (w : Str) (many : Nat) : Option (Option Nat) := if w = "none" then some none else match readNum w with
  | some a => if a < many then some (some a) else none
  | none => none
def rdF (z : Str) (rs : List Str) (n : Nat) : Got (Dcl × Nat) :=
  if fnHd (wsOf z) = true then match readNum ((wsOf z).getD 2 "") with
    | some many => if many ≤ 60 then match atOf ((wsOf z).getD 3 "") many with
        | some a => match rdTy rs with
          | some ty => match rdT (rs.drop 1) (n + 2) [] with
            | .ok (t, m) => .ok (.fn ((wsOf z).getD 1 "") ty many a t (decide ((wsOf z).getD 4 "" = "shut")), m)
            | .error k => .error k
          | none => .error (n + 1)
        | none => .error n
      else .error n
    | none => .error n
  else .error n
def rdFrom : List Str → Nat → Got (Dcl × Nat)
  | [], n => .error n
  | z :: rs, n => if cutS z none (some (5 : Nat)) = "kind " then rdK z rs n else rdF z rs n
def rdOne (rs : List Str) : Got Dcl := match rdFrom rs 0 with
  | .ok (d, m) => if m = rs.length then .ok d else .error m
  | .error k => .error k
def rdAll : Nat → List Str → Nat → Got (List Dcl)
  | 0, _, n => .error n
  | f + 1, rs, n => if n < rs.length then match rdFrom (rs.drop n) n with
      | .error k => .error k
      | .ok (d, m) => match rdAll f rs m with
        | .ok ds => .ok (d :: ds)
        | .error k => .error k
    else .ok []
/-! ### what is read has just these rows -/
/-- a row of not too many, not too long words -/
def okR (z : Str) : Prop := (wsOf z).length ≤ 100 ∧ ∀ p ∈ wsOf z, p.length ≤ 64 ∧ asc p
theorem tbz_ok {z : Str} {k : Nat} {t : Tm} (hz : okR z) (h : tbz z k = some t) : tmOk t ∧ (wsOf z).drop k = cwords t := by
  obtain ⟨h1, h2⟩ := tbz_some h
  refine ⟨⟨h1, ?_⟩, h2⟩
  rw [← h2, List.length_drop]
  have := hz.1
  omega
theorem drop_cons {ws : List Str} {k : Nat} (h : k < ws.length) : ws.drop k = ws.getD k "" :: ws.drop (k + 1) := by
  rw [List.getD_eq_getElem?_getD, List.getElem?_eq_getElem h]
  exact List.drop_eq_getElem_cons h
theorem ws_cons (z : Str) : wsOf z = (wsOf z).getD 0 "" :: (wsOf z).drop 1 := by
  have := drop_cons (ws := wsOf z) (k := 0) (List.length_pos_iff.mpr (ws_ne z))
  exact this
theorem row_of {z : Str} {ws : List Str} (h : wsOf z = ws) : z = row ws := by rw [← h]; exact (ws_join z).symm
theorem num_of {w : Str} {n : Nat} (h : readNum w = some n) : w = numS n := (readNum_lt h).2.symm
theorem rowOf_inr {z : Str} {e : Bool} {o : Op} (h : rowOf z e = some (.inr o)) : o.bs = [] ∧ 0 < o.m ∧ o.m ≤ 1000000 ∧ o.p ≤ 1000000 ∧ z = row ["split", numS o.p, numS o.m] := by
  unfold rowOf at h
  split at h
  · rename_i h0
    split at h
    · rename_i h3
      split at h
      · rename_i p m hp hm
        split at h
        · rename_i hle
          split at h
          · rename_i h0m
            cases h
            refine ⟨rfl, h0m, hle.2, hle.1, row_of ?_⟩
            rw [ws_cons z, h0, drop_cons (by omega), drop_cons (by omega), List.drop_of_length_le (by omega), num_of hp, num_of hm]
          · cases h
        · cases h
      · cases h
    · cases h
  · split at h
    · split at h
      · cases h
      · cases h
    · split at h <;> cases h
theorem rowOf_inl {z : Str} {e : Bool} {t : Tr} (hz : okR z) (h : rowOf z e = some (.inl t)) : t.wf ∧ t.rows = [z] ∧ (e = true → t ≠ .barred) := by
  unfold rowOf at h
  split at h
  · rename_i h0
    split at h
    · rename_i h3
      split at h
      · rename_i p m hp hm
        split at h
        · rename_i hle
          split at h
          · cases h
          · rename_i h0m
            cases h
            have hm0 : m = 0 := by omega
            subst hm0
            refine ⟨?_, ?_, fun _ q => by cases q⟩
            · unfold Tr.wf; exact ⟨hle.1, Nat.zero_le _, by unfold wfL; trivial⟩
            · unfold Tr.rows
              rw [show rowsL [] = [] by unfold rowsL; rfl]
              congr 1
              refine (row_of ?_).symm
              rw [ws_cons z, h0, drop_cons (by omega), drop_cons (by omega), List.drop_of_length_le (by omega), num_of hp, num_of hm]
              rfl
        · cases h
      · cases h
    · cases h
  · split at h
    · rename_i h0
      split at h
      · rename_i t' ht
        cases h
        obtain ⟨h1, h2⟩ := tbz_ok hz ht
        refine ⟨?_, ?_, fun _ q => by cases q⟩
        · unfold Tr.wf; exact h1
        · unfold Tr.rows
          congr 1
          refine (row_of ?_).symm
          rw [ws_cons z, h0, h2]
      · cases h
    · split at h
      · rename_i hb
        cases h
        refine ⟨by unfold Tr.wf; trivial, ?_, fun q => by rw [hb.2] at q; cases q⟩
        unfold Tr.rows
        rw [row_of hb.1, row, join_one]
      · cases h
def opRows : List Op → List Str
  | [] => []
  | o :: os => opRows os ++ (row ["split", numS o.p, numS o.m] :: rowsL o.bs)
def Op.good (o : Op) : Prop := o.bs.length < o.m ∧ o.m ≤ 1000000 ∧ o.p ≤ 1000000 ∧ wfL o.bs
theorem rowsL_app (a b : List Tr) : rowsL (a ++ b) = rowsL a ++ rowsL b := by rw [rowsL_map, rowsL_map, rowsL_map, List.flatMap_append]
theorem rowsL_one (t : Tr) : rowsL [t] = t.rows := by rw [rowsL_map]; simp
theorem wfL_snoc {a : List Tr} {t : Tr} (ha : wfL a) (ht : t.wf) : wfL (a ++ [t]) := by
  rw [wfL_iff] at ha ⊢
  intro b hb
  rcases List.mem_append.mp hb with hb | hb
  · exact ha b hb
  · rw [List.mem_singleton.mp hb]; exact ht
theorem closeO_rows : ∀ (os : List Op) (t : Tr), (∀ o ∈ os, o.good) → t.wf → (os = [] → t ≠ .barred) → match closeO t os with
    | .inl t' => t'.wf ∧ t'.rows = opRows os ++ t.rows ∧ t' ≠ .barred
    | .inr os' => (∀ o ∈ os', o.good) ∧ opRows os' = opRows os ++ t.rows ∧ os' ≠ []
  | [], t, _, ht, hb => by unfold closeO; exact ⟨ht, rfl, hb rfl⟩
  | o :: os, t, hg, ht, hb => by
    obtain ⟨g1, g2, g3, g4⟩ := hg o List.mem_cons_self
    unfold closeO
    by_cases hk : o.bs.length + 1 < o.m
    · rw [if_pos hk]
      refine ⟨fun x hx => ?_, ?_, by simp⟩
      · rcases List.mem_cons.mp hx with rfl | hx
        · exact ⟨by show (o.bs ++ [t]).length < o.m; rw [List.length_append]; exact hk, g2, g3, wfL_snoc g4 ht⟩
        · exact hg x (List.mem_cons_of_mem _ hx)
      · show opRows os ++ (row ["split", numS o.p, numS o.m] :: rowsL (o.bs ++ [t])) = (opRows os ++ (row ["split", numS o.p, numS o.m] :: rowsL o.bs)) ++ t.rows
        rw [rowsL_app, rowsL_one]; simp
    · rw [if_neg hk]
      have hm : o.m = (o.bs ++ [t]).length := by rw [List.length_append]; show o.m = o.bs.length + 1; omega
      have wfS : (Tr.split o.p (o.bs ++ [t])).wf := by unfold Tr.wf; exact ⟨g3, by rw [← hm]; exact g2, wfL_snoc g4 ht⟩
      have ih := closeO_rows os (.split o.p (o.bs ++ [t])) (fun x hx => hg x (List.mem_cons_of_mem _ hx)) wfS (fun _ q => by cases q)
      have er : (Tr.split o.p (o.bs ++ [t])).rows = row ["split", numS o.p, numS o.m] :: (rowsL o.bs ++ t.rows) := by
        rw [Tr.rows, ← hm, rowsL_app, rowsL_one]
      have key : opRows os ++ (Tr.split o.p (o.bs ++ [t])).rows = opRows (o :: os) ++ t.rows := by
        rw [er]
        show _ = (opRows os ++ (row ["split", numS o.p, numS o.m] :: rowsL o.bs)) ++ t.rows
        simp
      cases e : closeO (.split o.p (o.bs ++ [t])) os with
      | inl t' => rw [e] at ih; exact ⟨ih.1, ih.2.1.trans key, ih.2.2⟩
      | inr os' => rw [e] at ih; exact ⟨ih.1, ih.2.1.trans key, ih.2.2⟩
theorem rdT_rows : ∀ (rs : List Str) (n : Nat) (os : List Op) (t : Tr) (m : Nat), (∀ z ∈ rs, okR z) → (∀ o ∈ os, o.good) → rdT rs n os = .ok (t, m) → t.wf ∧ t ≠ .barred ∧ ∃ used rest, rs = used ++ rest ∧ m = n + used.length ∧ t.rows = opRows os ++ used
  | [], _, _, _, _, _, _, e => by unfold rdT at e; cases e
  | z :: rs, n, os, t, m, hz, hg, e => by
    have hzz := hz z List.mem_cons_self
    have hzr : ∀ x ∈ rs, okR x := fun x hx => hz x (List.mem_cons_of_mem _ hx)
    unfold rdT at e
    cases er : rowOf z os.isEmpty with
    | none => rw [er] at e; cases e
    | some q =>
      rw [er] at e
      cases q with
      | inr o =>
        dsimp only at e
        obtain ⟨o1, o2, o3, o4, o5⟩ := rowOf_inr er
        obtain ⟨q1, q2, used, rest, q3, q4, q5⟩ := rdT_rows rs (n + 1) (o :: os) t m hzr (fun x hx => by
          rcases List.mem_cons.mp hx with rfl | hx
          · exact ⟨by rw [o1]; exact o2, o3, o4, by rw [o1]; unfold wfL; trivial⟩
          · exact hg x hx) e
        refine ⟨q1, q2, z :: used, rest, by rw [q3]; rfl, by rw [q4, List.length_cons]; omega, ?_⟩
        rw [q5]
        show (opRows os ++ (row ["split", numS o.p, numS o.m] :: rowsL o.bs)) ++ used = _
        rw [o1, ← o5, show rowsL [] = [] by unfold rowsL; rfl]; simp
      | inl t0 =>
        dsimp only at e
        obtain ⟨l1, l2, l3⟩ := rowOf_inl hzz er
        have hc := closeO_rows os t0 hg l1 (fun h => l3 (by rw [h]; rfl))
        cases ec : closeO t0 os with
        | inl t' =>
          rw [ec] at e hc
          cases e
          exact ⟨hc.1, hc.2.2, [z], rs, rfl, rfl, by rw [hc.2.1, l2]⟩
        | inr os' =>
          rw [ec] at e hc
          dsimp only at e
          obtain ⟨q1, q2, used, rest, q3, q4, q5⟩ := rdT_rows rs (n + 1) os' t m hzr hc.1 e
          refine ⟨q1, q2, z :: used, rest, by rw [q3]; rfl, by rw [q4, List.length_cons]; omega, ?_⟩
          rw [q5, hc.2.1, l2]; simp
end RS

/-! Back6: the rows of a declaration are read back; where reading stops. -/
namespace RS
open PySem PySem.Spec PyProof.Rows L2 TL

def goOn (t : Tr) (os : List Op) (rs : List Str) (n : Nat) : Got (Tr × Nat) := match closeO t os with
  | .inl t' => .ok (t', n)
  | .inr os' => rdT rs n os'
theorem no32_num {n : Nat} (h : n ≤ 1000000) : 32 ∉ cl (numS n) := (okW_num (by omega : n < 10 ^ 18)).1
theorem read_num {n : Nat} (h : n ≤ 1000000) : readNum (numS n) = some n := readNum_numS (by omega)
theorem ws_row {ws : List Str} (hne : ws ≠ []) (h : ∀ p ∈ ws, 32 ∉ cl p) : wsOf (row ws) = ws := join_ws hne h
theorem no32_words {t : Tm} (h : t.wf) : ∀ p ∈ cwords t, 32 ∉ cl p := fun p hp => (okW_words t h p hp).1
theorem no32_sm {z : Str} (h : isWord z = true) : 32 ∉ cl z := (okW_word h).1
theorem word_cap {z : Str} (h : isCap z = true) : isWord z = true := (Bool.and_eq_true_iff.mp h).1
theorem word_sm {z : Str} (h : isSm z = true) : isWord z = true := (Bool.and_eq_true_iff.mp h).1
theorem rowOf_split {p m : Nat} {e : Bool} (hp : p ≤ 1000000) (hm : m ≤ 1000000) : rowOf (row ["split", numS p, numS m]) e = some (if 0 < m then .inr ⟨p, m, []⟩ else .inl (.split p [])) := by
  have hw : wsOf (row ["split", numS p, numS m]) = (["split", numS p, numS m] : List Str) := ws_row (by simp) fun q hq => by
    simp only [List.mem_cons, List.not_mem_nil, or_false] at hq
    rcases hq with rfl | rfl | rfl
    · decide +kernel
    · exact no32_num hp
    · exact no32_num hm
  unfold rowOf
  rw [hw, if_pos (by rfl), if_pos (by rfl)]
  show (match readNum (numS p), readNum (numS m) with
      | some p, some m => if p ≤ 1000000 ∧ m ≤ 1000000 then some (if 0 < m then (Sum.inr (Op.mk p m []) : Tr ⊕ Op) else Sum.inl (Tr.split p [])) else none
      | _, _ => none) = _
  rw [read_num hp, read_num hm]
  dsimp only
  rw [if_pos ⟨hp, hm⟩]
theorem leaf_ne : ¬ ("leaf" : Str) = "split" := by decide +kernel
theorem rowOf_leaf {t : Tm} {e : Bool} (h : t.wf) : rowOf (row ("leaf" :: cwords t)) e = some (.inl (.leaf t)) := by
  have hw : wsOf (row ("leaf" :: cwords t)) = ("leaf" :: cwords t : List Str) := ws_row (by simp) fun q hq => by
    rcases List.mem_cons.mp hq with rfl | hq
    · decide +kernel
    · exact no32_words h q hq
  unfold rowOf
  rw [tbz_back h (by rw [hw]; rfl), hw, if_neg (show ¬ (("leaf" :: cwords t : List Str).getD 0 "" = "split") from leaf_ne), if_pos (show ("leaf" :: cwords t : List Str).getD 0 "" = "leaf" from rfl)]
theorem rowOf_barred : rowOf "barred" false = some (.inl .barred) := by
  have hw : wsOf "barred" = (["barred"] : List Str) := by decide +kernel
  unfold rowOf
  rw [hw, if_neg (by decide +kernel), if_neg (by decide +kernel), if_pos ⟨rfl, rfl⟩]
mutual
theorem rdT_tree : ∀ (t : Tr), t.wf → ∀ (rs : List Str) (n : Nat) (os : List Op), (t = .barred → os ≠ []) → rdT (t.rows ++ rs) n os = goOn t os rs (n + t.rows.length)
  | .barred, _, rs, n, os, hb => by
    unfold Tr.rows
    show rdT ("barred" :: rs) n os = _
    unfold rdT
    have he : os.isEmpty = false := by cases os with | nil => exact absurd rfl (hb rfl) | cons _ _ => rfl
    rw [he, rowOf_barred]
    rfl
  | .leaf t, h, rs, n, os, _ => by
    have h : tmOk t := by unfold Tr.wf at h; exact h
    unfold Tr.rows
    show rdT (row ("leaf" :: cwords t) :: rs) n os = _
    unfold rdT
    rw [rowOf_leaf h.1]
    rfl
  | .split p bs, h, rs, n, os, _ => by
    have h : p ≤ 1000000 ∧ bs.length ≤ 1000000 ∧ wfL bs := by unfold Tr.wf at h; exact h
    rw [show (Tr.split p bs).rows = row ["split", numS p, numS bs.length] :: rowsL bs by unfold Tr.rows; rfl]
    show rdT (row ["split", numS p, numS bs.length] :: (rowsL bs ++ rs)) n os = _
    unfold rdT
    rw [rowOf_split h.1 h.2.1]
    by_cases h0 : 0 < bs.length
    · rw [if_pos h0]
      dsimp only
      have := rdT_list bs h.2.2 (List.length_pos_iff.mp h0) p [] rs (n + 1) os
      rw [List.length_nil, Nat.zero_add, List.nil_append] at this
      rw [this, List.length_cons]
      congr 1
      omega
    · rw [if_neg h0]
      have hb : bs = [] := List.length_eq_zero_iff.mp (by omega)
      subst hb
      rw [show rowsL [] = [] by unfold rowsL; rfl]
      rfl
theorem rdT_list : ∀ (bs : List Tr), wfL bs → bs ≠ [] → ∀ (p : Nat) (pre : List Tr) (rs : List Str) (n : Nat) (os : List Op),
    rdT (rowsL bs ++ rs) n (⟨p, pre.length + bs.length, pre⟩ :: os) = goOn (.split p (pre ++ bs)) os rs (n + (rowsL bs).length)
  | [], _, hne, _, _, _, _, _ => absurd rfl hne
  | b :: bs, h, _, p, pre, rs, n, os => by
    have h : b.wf ∧ wfL bs := by unfold wfL at h; exact h
    rw [show rowsL (b :: bs) = b.rows ++ rowsL bs by rw [rowsL], List.append_assoc, rdT_tree b h.1 (rowsL bs ++ rs) n (⟨p, pre.length + (b :: bs).length, pre⟩ :: os) (fun _ q => by cases q)]
    unfold goOn
    conv => lhs; unfold closeO
    dsimp only
    by_cases hb : bs = []
    · subst hb
      rw [if_neg (by simp)]
      rw [show rowsL [] = [] by unfold rowsL; rfl, List.append_nil, List.nil_append]
    · have hp : 0 < bs.length := List.length_pos_iff.mpr hb
      rw [if_pos (by rw [List.length_cons]; omega)]
      dsimp only
      have ih := rdT_list bs h.2 hb p (pre ++ [b]) rs (n + b.rows.length) os
      rw [show (pre ++ [b]).length + bs.length = pre.length + (b :: bs).length by simp; omega] at ih
      rw [ih, List.append_assoc, List.length_append]
      show goOn (.split p (pre ++ (b :: bs))) os rs _ = goOn (.split p (pre ++ (b :: bs))) os rs _
      congr 1
      omega
end
theorem rdTy_back {t : Tm} {rs : List Str} (h : cloOk t) : rdTy (row ("type" :: cwords t) :: rs) = some t := by
  obtain ⟨⟨h1, _⟩, h2⟩ := h
  have hw : wsOf (row ("type" :: cwords t)) = ("type" :: cwords t : List Str) := ws_row (by simp) fun q hq => by
    rcases List.mem_cons.mp hq with rfl | hq
    · decide +kernel
    · exact no32_words h1 q hq
  unfold rdTy
  dsimp only
  obtain ⟨b, l, e⟩ : ∃ b l, cwords t = b :: l := by
    match hc : cwords t, cwords_ne t with
    | b :: l, _ => exact ⟨b, l, rfl⟩
  have hcut : cutS (row ("type" :: cwords t)) none (some ((5 : Nat) : Int)) = "type " := by
    rw [e]
    exact (cut_join (by decide +kernel)).trans (by decide +kernel)
  rw [if_pos hcut, tbz_back h1 (by rw [hw]; rfl)]
  dsimp only
  rw [if_pos h2]
theorem rdM_back : ∀ (ms : List (Str × Tm)) (rs : List Str) (n : Nat), (∀ p ∈ ms, isCap p.1 = true ∧ cloOk p.2) → rdM (ms.map mkR ++ rs) n ms.length = .ok ms
  | [], rs, n, _ => by unfold rdM; rfl
  | (x, t) :: ms, rs, n, h => by
    obtain ⟨hx, ⟨h1, _⟩, h2⟩ := h (x, t) List.mem_cons_self
    have hw : wsOf (mkR (x, t)) = ("maker" :: x :: cwords t : List Str) := ws_row (by simp) fun q hq => by
      rcases List.mem_cons.mp hq with rfl | hq
      · decide +kernel
      · rcases List.mem_cons.mp hq with rfl | hq
        · exact no32_sm (word_cap hx)
        · exact no32_words h1 q hq
    have hcut : cutS (mkR (x, t)) none (some ((6 : Nat) : Int)) = "maker " := (cut_join (p := "maker") (b := x) (l := cwords t) (by decide +kernel)).trans (by decide +kernel)
    show rdM (mkR (x, t) :: (ms.map mkR ++ rs)) n (ms.length + 1) = _
    unfold rdM
    rw [if_pos ⟨hcut, by rw [hw]; exact hx⟩, tbz_back h1 (by rw [hw]; rfl)]
    dsimp only
    rw [if_pos h2, rdM_back ms rs (n + 1) fun p hp => h p (List.mem_cons_of_mem _ hp), hw]
    rfl
theorem Dcl.rows_pos (d : Dcl) : 2 ≤ d.rows.length := by cases d <;> (unfold Dcl.rows; simp)
theorem rdFrom_back {d : Dcl} (h : d.wf) (rs : List Str) (n : Nat) : rdFrom (d.rows ++ rs) n = .ok (d, n + d.rows.length) := by
  cases d with
  | kind x many ty mk =>
    obtain ⟨h1, h2, h3, h4, h5⟩ := h
    have hw : wsOf (row ["kind", x, numS many, numS mk.length]) = (["kind", x, numS many, numS mk.length] : List Str) := ws_row (by simp) fun q hq => by
      simp only [List.mem_cons, List.not_mem_nil, or_false] at hq
      rcases hq with rfl | rfl | rfl | rfl
      · decide +kernel
      · exact no32_sm (word_cap h1)
      · exact no32_num (by omega)
      · exact no32_num h4
    have hcut : cutS (row ["kind", x, numS many, numS mk.length]) none (some ((5 : Nat) : Int)) = "kind " := (cut_join (p := "kind") (by decide +kernel)).trans (by decide +kernel)
    show rdFrom (row ["kind", x, numS many, numS mk.length] :: (row ("type" :: cwords ty) :: (mk.map mkR ++ rs))) n = _
    unfold rdFrom
    dsimp only
    rw [if_pos hcut]
    unfold rdK
    have hk : kindHd ["kind", x, numS many, numS mk.length] = true := by
      show (true && (decide (("kind" : Str) = "kind") && isCap x)) = true
      rw [h1]; decide +kernel
    rw [hw, if_pos hk]
    show (match readNum (numS many), readNum (numS mk.length) with
      | some many, some mk' => _
      | _, _ => _) = _
    rw [read_num (by omega), read_num h4]
    dsimp only
    rw [if_pos h2, rdTy_back h3]
    show (match rdM (mk.map mkR ++ rs) (n + 2) mk.length with
      | .ok ms => _
      | .error k => _) = _
    rw [rdM_back mk rs (n + 2) h5]
    show Except.ok (Dcl.kind x many ty mk, n + 2 + mk.length) = _
    congr 2
    show _ = n + ((mk.map mkR).length + 1 + 1)
    rw [List.length_map]; omega
  | fn x ty many at_ tree shut =>
    obtain ⟨h1, h2, h3, h4, h5, h6⟩ := h
    have ha : 32 ∉ cl (atS at_) := by
      cases at_ with
      | none => decide +kernel
      | some a => have := h4 a rfl; exact no32_num (by omega)
    have hs : 32 ∉ cl (shutS shut) := by cases shut <;> decide +kernel
    have hw : wsOf (row ["function", x, numS many, atS at_, shutS shut]) = (["function", x, numS many, atS at_, shutS shut] : List Str) := ws_row (by simp) fun q hq => by
      simp only [List.mem_cons, List.not_mem_nil, or_false] at hq
      rcases hq with rfl | rfl | rfl | rfl | rfl
      · decide +kernel
      · exact no32_sm (word_sm h1)
      · exact no32_num (by omega)
      · exact ha
      · exact hs
    have hcut : ¬ cutS (row ["function", x, numS many, atS at_, shutS shut]) none (some ((5 : Nat) : Int)) = "kind " := fun q => by
      obtain ⟨b, l, e⟩ := first_word (p := "kind") (k := 5) (by decide +kernel) (by decide +kernel) (q.trans (by decide +kernel))
      rw [hw] at e
      injection e with e _
      exact absurd e (by decide +kernel)
    show rdFrom (row ["function", x, numS many, atS at_, shutS shut] :: (row ("type" :: cwords ty) :: (tree.rows ++ rs))) n = _
    unfold rdFrom
    dsimp only
    rw [if_neg hcut]
    unfold rdF
    have hk : fnHd ["function", x, numS many, atS at_, shutS shut] = true := by
      show (true && (decide (("function" : Str) = "function") && (isSm x && decide (shutS shut ∈ (["shut", "open"] : List Str))))) = true
      rw [h1]
      cases shut <;> decide +kernel
    rw [hw, if_pos hk]
    show (match readNum (numS many) with
      | some many => _
      | none => _) = _
    rw [read_num (by omega)]
    dsimp only
    rw [if_pos h2]
    have hat : atOf (atS at_) many = some at_ := by
      cases at_ with
      | none => unfold atOf; rw [if_pos (show atS none = "none" from rfl)]
      | some a =>
        have hl := h4 a rfl
        have hn : ¬ numS a = "none" := fun q => by
          have := read_num (n := a) (by omega)
          rw [q] at this
          exact absurd this (by rw [show readNum "none" = none by decide +kernel]; simp)
        show atOf (numS a) many = _
        unfold atOf
        rw [if_neg hn, read_num (by omega)]
        dsimp only
        rw [if_pos hl]
    show (match atOf (atS at_) many with
      | some a => _
      | none => _) = _
    rw [hat]
    dsimp only
    rw [rdTy_back h3]
    show (match rdT (tree.rows ++ rs) (n + 2) [] with
      | .ok (t, m) => _
      | .error k => _) = _
    rw [rdT_tree tree h5 rs (n + 2) [] (fun q => absurd q h6)]
    unfold goOn closeO
    have e1 : ∀ b : Bool, decide (shutS b = "shut") = b := by decide +kernel
    show Except.ok (Dcl.fn x ty many at_ tree (decide (shutS shut = "shut")), n + 2 + tree.rows.length) = _
    rw [e1]
    congr 2
    show _ = n + (tree.rows.length + 1 + 1)
    omega
theorem rdOne_back {d : Dcl} (h : d.wf) : rdOne d.rows = .ok d := by
  unfold rdOne
  have := rdFrom_back h [] 0
  rw [List.append_nil, Nat.zero_add] at this
  rw [this]
  dsimp only
  rw [if_pos rfl]
theorem rdAll_back : ∀ (ds : List Dcl) (f : Nat) (pre : List Str), (∀ d ∈ ds, d.wf) → ds.length < f → rdAll f (pre ++ ds.flatMap Dcl.rows) pre.length = .ok ds
  | [], 0, _, _, hf => absurd hf (by simp)
  | [], f + 1, pre, _, _ => by unfold rdAll; rw [if_neg (by simp)]
  | d :: ds, 0, _, _, hf => absurd hf (by simp)
  | d :: ds, f + 1, pre, h, hf => by
    have hd := h d List.mem_cons_self
    have hp := d.rows_pos
    unfold rdAll
    rw [List.flatMap_cons, if_pos (by simp; omega), List.drop_left, rdFrom_back hd]
    dsimp only
    have ih := rdAll_back ds f (pre ++ d.rows) (fun x hx => h x (List.mem_cons_of_mem _ hx)) (by simpa using hf)
    rw [List.append_assoc, List.length_append] at ih
    rw [ih]
end RS

/-! Near6: where reading of rows ends; texts of rows. -/
namespace RS
open PySem PySem.Spec PyProof.Rows L2 TL

theorem rdT_in : ∀ (rs : List Str) (n : Nat) (os : List Op), match rdT rs n os with
    | .ok (_, m) => n < m ∧ m ≤ n + rs.length
    | .error k => k ≤ n + rs.length
  | [], n, os => by unfold rdT; exact Nat.le_refl _
  | z :: rs, n, os => by
    have step : ∀ os', match rdT rs (n + 1) os' with
        | .ok (_, m) => n < m ∧ m ≤ n + (z :: rs).length
        | .error k => k ≤ n + (z :: rs).length := fun os' => by
      have ih := rdT_in rs (n + 1) os'
      cases e : rdT rs (n + 1) os' with
      | error k => rw [e] at ih; dsimp only at ih ⊢; rw [List.length_cons]; omega
      | ok q => obtain ⟨t, m⟩ := q; rw [e] at ih; dsimp only at ih ⊢; rw [List.length_cons]; omega
    unfold rdT
    cases rowOf z os.isEmpty with
    | none => exact Nat.le_add_right _ _
    | some q =>
      cases q with
      | inr o => exact step _
      | inl t =>
        dsimp only
        cases closeO t os with
        | inl t' => dsimp only; rw [List.length_cons]; omega
        | inr os' => exact step _
theorem rdM_in : ∀ (rs : List Str) (n k : Nat), match rdM rs n k with
    | .ok ms => ms.length = k ∧ k ≤ rs.length
    | .error j => j ≤ n + rs.length
  | rs, n, 0 => by unfold rdM; exact ⟨rfl, Nat.zero_le _⟩
  | [], n, k + 1 => by unfold rdM; exact Nat.le_refl _
  | z :: rs, n, k + 1 => by
    have bad : n ≤ n + (z :: rs).length := Nat.le_add_right _ _
    unfold rdM
    by_cases h0 : cutS z none (some (6 : Nat)) = "maker " ∧ isCap ((wsOf z).getD 1 "") = true
    · rw [if_pos h0]
      cases tbz z 2 with
      | none => exact bad
      | some t =>
        dsimp only
        by_cases hc : t.closed 0 = true
        · rw [if_pos hc]
          have ih := rdM_in rs (n + 1) k
          cases e : rdM rs (n + 1) k with
          | error j => rw [e] at ih; dsimp only at ih ⊢; rw [List.length_cons]; omega
          | ok ms => rw [e] at ih; dsimp only at ih ⊢; rw [List.length_cons, List.length_cons]; omega
        · rw [if_neg hc]; exact bad
    · rw [if_neg h0]; exact bad
theorem rdTy_cons {rs : List Str} {t : Tm} (h : rdTy rs = some t) : ∃ z r, rs = z :: r := by
  cases rs with
  | nil => unfold rdTy at h; cases h
  | cons z r => exact ⟨z, r, rfl⟩
theorem rdFrom_in (rs : List Str) (n : Nat) : match rdFrom rs n with
    | .ok (_, m) => n < m ∧ m ≤ n + rs.length
    | .error k => k ≤ n + rs.length := by
  cases rs with
  | nil => unfold rdFrom; exact Nat.le_refl _
  | cons z rs =>
    have bad : n ≤ n + (z :: rs).length := Nat.le_add_right _ _
    have bad1 : n + 1 ≤ n + (z :: rs).length := by rw [List.length_cons]; omega
    unfold rdFrom
    dsimp only
    by_cases hk0 : cutS z none (some (5 : Nat)) = "kind "
    · rw [if_pos hk0]
      unfold rdK
      by_cases h1 : kindHd (wsOf z) = true
      · rw [if_pos h1]
        cases readNum ((wsOf z).getD 2 "") with
        | none => exact bad
        | some many =>
          cases readNum ((wsOf z).getD 3 "") with
          | none => exact bad
          | some mk =>
            dsimp only
            by_cases h2 : many ≤ 60
            · rw [if_pos h2]
              cases ht : rdTy rs with
              | none => exact bad1
              | some ty =>
                dsimp only
                obtain ⟨y, r, rfl⟩ := rdTy_cons ht
                have hm := rdM_in r (n + 2) mk
                rw [show (y :: r).drop 1 = r from rfl]
                cases e : rdM r (n + 2) mk with
                | error j => rw [e] at hm; dsimp only at hm ⊢; rw [List.length_cons, List.length_cons]; omega
                | ok ms => rw [e] at hm; dsimp only at hm ⊢; rw [List.length_cons, List.length_cons]; omega
            · rw [if_neg h2]; exact bad
      · rw [if_neg h1]; exact bad
    · rw [if_neg hk0]
      unfold rdF
      by_cases h1 : fnHd (wsOf z) = true
      · rw [if_pos h1]
        cases readNum ((wsOf z).getD 2 "") with
        | none => exact bad
        | some many =>
          dsimp only
          by_cases h2 : many ≤ 60
          · rw [if_pos h2]
            cases atOf ((wsOf z).getD 3 "") many with
            | none => exact bad
            | some a =>
              dsimp only
              cases ht : rdTy rs with
              | none => exact bad1
              | some ty =>
                dsimp only
                obtain ⟨y, r, rfl⟩ := rdTy_cons ht
                have hm := rdT_in r (n + 2) []
                rw [show (y :: r).drop 1 = r from rfl]
                cases e : rdT r (n + 2) [] with
                | error j => rw [e] at hm; dsimp only at hm ⊢; rw [List.length_cons, List.length_cons]; omega
                | ok q => obtain ⟨t, m⟩ := q; rw [e] at hm; dsimp only at hm ⊢; rw [List.length_cons, List.length_cons]; omega
          · rw [if_neg h2]; exact bad
      · rw [if_neg h1]; exact bad
theorem rdTy_ok {z : Str} {rs : List Str} {t : Tm} (hz : okR z) (h : rdTy (z :: rs) = some t) : cloOk t ∧ z = row ("type" :: cwords t) := by
  unfold rdTy at h
  dsimp only at h
  split at h
  · rename_i hc
    split at h
    · rename_i t' ht
      split at h
      · rename_i hcl
        cases h
        obtain ⟨h1, h2⟩ := tbz_ok hz ht
        obtain ⟨b, l, e⟩ := first_word (p := "type") (k := 5) (by decide +kernel) (by decide +kernel) (hc.trans (by decide +kernel))
        refine ⟨⟨h1, hcl⟩, row_of ?_⟩
        rw [e] at h2 ⊢
        rw [← h2]
        rfl
      · cases h
    · cases h
  · cases h
theorem rdM_ok : ∀ (rs : List Str) (n k : Nat) (ms : List (Str × Tm)), (∀ z ∈ rs, okR z) → rdM rs n k = .ok ms → (∀ p ∈ ms, isCap p.1 = true ∧ cloOk p.2) ∧ ∃ rest, rs = ms.map mkR ++ rest
  | rs, n, 0, ms, _, e => by
    unfold rdM at e
    cases e
    exact ⟨(fun _ h => by cases h), rs, rfl⟩
  | [], n, k + 1, ms, _, e => by unfold rdM at e; cases e
  | z :: rs, n, k + 1, ms, hz, e => by
    have hzz := hz z List.mem_cons_self
    unfold rdM at e
    split at e
    · rename_i hc
      obtain ⟨hc, hcap⟩ := hc
      split at e
      · rename_i t ht
        split at e
        · rename_i hcl
          split at e
          · rename_i ms' em
            cases e
            obtain ⟨h1, h2⟩ := tbz_ok hzz ht
            obtain ⟨q1, rest, q2⟩ := rdM_ok rs (n + 1) k ms' (fun x hx => hz x (List.mem_cons_of_mem _ hx)) em
            obtain ⟨b, l, e2⟩ := first_word (p := "maker") (k := 6) (by decide +kernel) (by decide +kernel) (hc.trans (by decide +kernel))
            refine ⟨fun p hp => ?_, rest, ?_⟩
            · rcases List.mem_cons.mp hp with rfl | hp
              · exact ⟨hcap, h1, hcl⟩
              · exact q1 p hp
            · rw [List.map_cons, List.cons_append, ← q2]
              congr 1
              refine row_of ?_
              rw [e2] at h2 ⊢
              rw [show (("maker" : Str) :: b :: l).getD 1 "" = b from rfl, ← h2]
              rfl
          · cases e
        · cases e
      · cases e
    · cases e
theorem five {ws : List Str} (h : ws.length = 5) : ws = [ws.getD 0 "", ws.getD 1 "", ws.getD 2 "", ws.getD 3 "", ws.getD 4 ""] := by
  match ws, h with
  | [a, b, c, d, e], _ => rfl
theorem andB3 {a b c : Bool} (h : (a && (b && c)) = true) : a = true ∧ b = true ∧ c = true := by simpa [Bool.and_eq_true] using h
theorem rdFrom_ok {rs : List Str} {n m : Nat} {d : Dcl} (hz : ∀ z ∈ rs, okR z) (hl : rs.length ≤ 1000000) (e : rdFrom rs n = .ok (d, m)) : d.wf ∧ ∃ rest, rs = d.rows ++ rest ∧ m = n + d.rows.length := by
  cases rs with
  | nil => unfold rdFrom at e; cases e
  | cons z rs =>
    have hzz := hz z List.mem_cons_self
    have hzr : ∀ x ∈ rs, okR x := fun x hx => hz x (List.mem_cons_of_mem _ hx)
    unfold rdFrom at e
    dsimp only at e
    split at e
    · unfold rdK at e
      split at e
      · rename_i hk
        unfold kindHd at hk
        obtain ⟨k1, k2, k3⟩ := andB3 hk
        have k1 := of_decide_eq_true k1
        have k2 := of_decide_eq_true k2
        split at e
        · rename_i many mk hm1 hm2
          split at e
          · rename_i h60
            cases ht : rdTy rs with
            | none => rw [ht] at e; cases e
            | some ty =>
              rw [ht] at e
              dsimp only at e
              obtain ⟨y, r, rfl⟩ := rdTy_cons ht
              have e : (match rdM r (n + 2) mk with
                | .ok ms => (.ok (.kind ((wsOf z).getD 1 "") many ty ms, n + 2 + mk) : Got (Dcl × Nat))
                | .error k => .error k) = .ok (d, m) := e
              cases em : rdM r (n + 2) mk with
              | error j => rw [em] at e; cases e
              | ok ms =>
                rw [em] at e
                dsimp only at e
                cases e
                obtain ⟨q1, q2⟩ := rdTy_ok (hzr y List.mem_cons_self) ht
                obtain ⟨q3, rest, q4⟩ := rdM_ok r (n + 2) mk ms (fun x hx => hzr x (List.mem_cons_of_mem _ hx)) em
                have hin := rdM_in r (n + 2) mk
                rw [em] at hin
                dsimp only at hin
                rw [List.length_cons, List.length_cons] at hl
                refine ⟨⟨k3, h60, q1, by omega, q3⟩, rest, ?_, ?_⟩
                · show z :: y :: r = row ["kind", (wsOf z).getD 1 "", numS many, numS ms.length] :: row ("type" :: cwords ty) :: (ms.map mkR ++ rest)
                  rw [← q2, ← q4]
                  congr 1
                  refine row_of ?_
                  rw [ws_cons z, k2, drop_cons (by omega), drop_cons (by omega), drop_cons (by omega), List.drop_of_length_le (by omega), num_of hm1, num_of hm2, hin.1]
                  rfl
                · show _ = n + ((ms.map mkR).length + 1 + 1)
                  rw [List.length_map, hin.1]; omega
          · cases e
        · cases e
      · cases e
    · unfold rdF at e
      split at e
      · rename_i hk
        unfold fnHd at hk
        obtain ⟨k1, k2, k34⟩ := andB3 hk
        obtain ⟨k3, k4⟩ := Bool.and_eq_true_iff.mp k34
        have k1 := of_decide_eq_true k1
        have k2 := of_decide_eq_true k2
        have k4 := of_decide_eq_true k4
        split at e
        · rename_i many hm1
          split at e
          · rename_i h60
            split at e
            · rename_i a hat
              cases ht : rdTy rs with
              | none => rw [ht] at e; cases e
              | some ty =>
                rw [ht] at e
                dsimp only at e
                obtain ⟨y, r, rfl⟩ := rdTy_cons ht
                have e : (match rdT r (n + 2) [] with
                  | .ok (t, m) => (.ok (.fn ((wsOf z).getD 1 "") ty many a t (decide ((wsOf z).getD 4 "" = "shut")), m) : Got (Dcl × Nat))
                  | .error k => .error k) = .ok (d, m) := e
                cases em : rdT r (n + 2) [] with
                | error j => rw [em] at e; cases e
                | ok q =>
                  obtain ⟨t, m'⟩ := q
                  rw [em] at e
                  dsimp only at e
                  cases e
                  obtain ⟨q1, q2⟩ := rdTy_ok (hzr y List.mem_cons_self) ht
                  obtain ⟨q3, q4, used, rest, q5, q6, q7⟩ := rdT_rows r (n + 2) [] t m (fun x hx => hzr x (List.mem_cons_of_mem _ hx)) (fun _ h => by cases h) em
                  have q7 : t.rows = used := q7
                  have hat2 : (∀ b, a = some b → b < many) ∧ (wsOf z).getD 3 "" = atS a := by
                    unfold atOf at hat
                    split at hat
                    · rename_i hn
                      cases hat
                      exact ⟨(fun b q => by cases q), hn⟩
                    · split at hat
                      · rename_i b hb
                        split at hat
                        · rename_i hlt
                          cases hat
                          exact ⟨(fun c q => by cases q; exact hlt), num_of hb⟩
                        · cases hat
                      · cases hat
                  refine ⟨⟨k3, h60, q1, hat2.1, q3, q4⟩, rest, ?_, ?_⟩
                  · show z :: y :: r = row ["function", (wsOf z).getD 1 "", numS many, atS a, shutS (decide ((wsOf z).getD 4 "" = "shut"))] :: row ("type" :: cwords ty) :: (t.rows ++ rest)
                    rw [← q2, q7, ← q5]
                    congr 1
                    refine row_of ?_
                    have hs : (wsOf z).getD 4 "" = shutS (decide ((wsOf z).getD 4 "" = "shut")) := by
                      simp only [List.mem_cons, List.not_mem_nil, or_false] at k4
                      rcases k4 with q | q <;> rw [q] <;> decide +kernel
                    exact (five k1).trans (by rw [k2, num_of hm1, hat2.2, ← hs])
                  · show _ = n + (t.rows.length + 1 + 1)
                    rw [q7]; omega
            · cases e
          · cases e
        · cases e
      · cases e
theorem rdAll_in : ∀ (f : Nat) (rs : List Str) (n : Nat), n ≤ rs.length → ∀ k, rdAll f rs n = .error k → k ≤ rs.length
  | 0, rs, n, hn, k, e => by unfold rdAll at e; cases e; exact hn
  | f + 1, rs, n, hn, k, e => by
    unfold rdAll at e
    split at e
    · have hin := rdFrom_in (rs.drop n) n
      split at e
      · rename_i j ej
        cases e
        rw [ej] at hin
        dsimp only at hin
        rw [List.length_drop] at hin
        omega
      · rename_i d m ed
        rw [ed] at hin
        dsimp only at hin
        rw [List.length_drop] at hin
        split at e
        · cases e
        · rename_i j ej
          cases e
          exact rdAll_in f rs m (by omega) _ ej
    · cases e
theorem rdAll_ok : ∀ (f : Nat) (rs : List Str) (n : Nat) (ds : List Dcl), (∀ z ∈ rs, okR z) → rs.length ≤ 1000000 → n ≤ rs.length → rdAll f rs n = .ok ds → (∀ d ∈ ds, d.wf) ∧ rs.drop n = ds.flatMap Dcl.rows
  | 0, rs, n, ds, _, _, _, e => by unfold rdAll at e; cases e
  | f + 1, rs, n, ds, hz, hl, hn, e => by
    unfold rdAll at e
    split at e
    · rename_i hlt
      have hin := rdFrom_in (rs.drop n) n
      split at e
      · cases e
      · rename_i d m ed
        rw [ed] at hin
        dsimp only at hin
        rw [List.length_drop] at hin
        split at e
        · rename_i ds' es
          cases e
          obtain ⟨q1, rest, q2, q3⟩ := rdFrom_ok (fun z h => hz z (List.mem_of_mem_drop h)) (by rw [List.length_drop]; omega) ed
          obtain ⟨q4, q5⟩ := rdAll_ok f rs m ds' hz hl (by omega) es
          refine ⟨fun x hx => ?_, ?_⟩
          · rcases List.mem_cons.mp hx with rfl | hx
            · exact q1
            · exact q4 x hx
          · rw [List.flatMap_cons, ← q5, q3, ← List.drop_drop, q2, List.drop_left]
        · cases e
    · cases e
      exact ⟨(fun _ h => by cases h), List.drop_of_length_le (by omega)⟩
theorem rdAll_fuel : ∀ (f g : Nat) (rs : List Str) (n : Nat), n ≤ rs.length → rs.length < f + n → rs.length < g + n → rdAll f rs n = rdAll g rs n
  | 0, _, rs, n, hn, h, _ => absurd h (by omega)
  | f + 1, 0, rs, n, hn, _, h => absurd h (by omega)
  | f + 1, g + 1, rs, n, hn, h1, h2 => by
    unfold rdAll
    by_cases hlt : n < rs.length
    · rw [if_pos hlt, if_pos hlt]
      have hin := rdFrom_in (rs.drop n) n
      cases e : rdFrom (rs.drop n) n with
      | error k => rfl
      | ok q =>
        obtain ⟨d, m⟩ := q
        rw [e] at hin
        dsimp only at hin ⊢
        rw [List.length_drop] at hin
        rw [rdAll_fuel f g rs m (by omega) (by omega) (by omega)]
    · rw [if_neg hlt, if_neg hlt]
/-- all from a row on -/
def RdAll (rs : List Str) (n : Nat) : Got (List Dcl) := rdAll (rs.length + 1) rs n
theorem RdAll_step {rs : List Str} {n m : Nat} {d : Dcl} (hlt : n < rs.length) (e : rdFrom (rs.drop n) n = .ok (d, m)) : RdAll rs n = (match RdAll rs m with
    | .ok ds => .ok (d :: ds)
    | .error k => .error k) := by
  have hin := rdFrom_in (rs.drop n) n
  rw [e] at hin
  dsimp only at hin
  rw [List.length_drop] at hin
  unfold RdAll
  conv => lhs; unfold rdAll
  rw [if_pos hlt, e]
  dsimp only
  rw [rdAll_fuel rs.length (rs.length + 1) rs m (by omega) (by omega) (by omega)] <;> (cases rdAll (rs.length + 1) rs m <;> rfl)
theorem RdAll_bad {rs : List Str} {n k : Nat} (hlt : n < rs.length) (e : rdFrom (rs.drop n) n = .error k) : RdAll rs n = .error k := by
  unfold RdAll rdAll
  rw [if_pos hlt, e]
theorem RdAll_end {rs : List Str} {n : Nat} (h : ¬ n < rs.length) : RdAll rs n = .ok [] := by
  unfold RdAll rdAll
  rw [if_neg h]
theorem RdAll_back {ds : List Dcl} (h : ∀ d ∈ ds, d.wf) : RdAll (ds.flatMap Dcl.rows) 0 = .ok ds := by
  unfold RdAll
  have hl : ds.length ≤ (ds.flatMap Dcl.rows).length := by
    clear h
    induction ds with
    | nil => exact Nat.zero_le _
    | cons d ds ih => rw [List.flatMap_cons, List.length_append, List.length_cons]; have := d.rows_pos; omega
  have := rdAll_back ds ((ds.flatMap Dcl.rows).length + 1) [] h (by omega)
  rw [List.nil_append, List.length_nil] at this
  exact this

/-! ### texts of rows -/
theorem nl_eq : ("\n" : Str) = ⟨#[10]⟩ := by decide +kernel
abbrev joinN (rs : List Str) : Str := Txt.join "\n" rs
abbrev rowsOf (z : Str) : List Str := Txt.split z "\n"
theorem rows_join (z : Str) : joinN (rowsOf z) = z := by show Txt.join "\n" (rowsOf z) = z; rw [join_eq]; exact PySem.StrLaws.join_split z "\n"
theorem join_rows {rs : List Str} (hne : rs ≠ []) (h : ∀ p ∈ rs, 10 ∉ cl p) : rowsOf (joinN rs) = rs :=
  split_join (y := "\n") (s := 10) (S := []) (by decide +kernel) (by decide +kernel) hne h
/-- the rows that read_declarations reads -/
def nearRs (z : Str) : List Str := if z = "" then [] else rowsOf z
theorem nearRs_join (z : Str) : joinN (nearRs z) = z := by
  unfold nearRs
  split
  · rename_i e; rw [e]; decide +kernel
  · exact rows_join z
theorem nearRs_le (z : Str) : (nearRs z).length ≤ (rowsOf z).length := by
  unfold nearRs
  split
  · exact Nat.zero_le _
  · exact Nat.le_refl _
theorem joinL_two (S : List Nat) (M : List (List Nat)) (hM : M ≠ []) : ∀ l : List (List Nat), l ≠ [] → joinL S l ++ (S ++ joinL S M) = joinL S (l ++ M)
  | [], h => absurd rfl h
  | [a], _ => by
    cases M with
    | nil => exact absurd rfl hM
    | cons b M => rfl
  | a :: b :: l, _ => by
    have := joinL_two S M hM (b :: l) (by simp)
    show (a ++ (S ++ joinL S (b :: l))) ++ (S ++ joinL S M) = a ++ (S ++ joinL S (b :: l ++ M))
    rw [← this]; simp
theorem joinL_flat (S : List Nat) : ∀ (ls : List (List (List Nat))), (∀ l ∈ ls, l ≠ []) → joinL S (ls.map (joinL S)) = joinL S ls.flatten
  | [], _ => rfl
  | [l], _ => by
    show joinL S l = joinL S (l ++ [])
    rw [List.append_nil]
  | l :: m :: ls, h => by
    have ih := joinL_flat S (m :: ls) fun x hx => h x (List.mem_cons_of_mem _ hx)
    have hl := h l List.mem_cons_self
    have hm := h m (List.mem_cons_of_mem _ List.mem_cons_self)
    have hne : (m :: ls).flatten ≠ [] := by
      rw [List.flatten_cons]
      intro q
      exact hm (List.append_eq_nil_iff.mp q).1
    have e : (l :: m :: ls).flatten = l ++ (m :: ls).flatten := List.flatten_cons
    rw [e, ← joinL_two S _ hne l hl, ← ih]
    rfl
theorem join_join (ls : List (List Str)) (h : ∀ l ∈ ls, l ≠ []) : joinN (ls.map joinN) = joinN ls.flatten := by
  refine str_ext ?_
  have e : ∀ l : List Str, cl (joinN l) = joinL (tl ("\n" : Str)) (l.map tl) := fun l => by
    rw [joinN, join_eq]; exact tl_join "\n" l
  rw [e, e, List.map_map]
  have e2 : (tl ∘ joinN) = fun l : List Str => joinL (tl ("\n" : Str)) (l.map tl) := funext fun l => e l
  rw [e2]
  have := joinL_flat (tl ("\n" : Str)) (ls.map fun l => l.map tl) (fun l hl => by
    obtain ⟨l', hl', rfl⟩ := List.mem_map.mp hl
    intro q
    exact h l' hl' (List.map_eq_nil_iff.mp q))
  rw [List.map_map] at this
  have e3 : (joinL (tl ("\n" : Str)) ∘ fun l : List Str => l.map tl) = fun l : List Str => joinL (tl ("\n" : Str)) (l.map tl) := rfl
  rw [e3] at this
  rw [this, List.map_flatten]
def Dcl.text (d : Dcl) : Str := joinN d.rows
theorem texts_join (ds : List Dcl) : joinN (ds.map Dcl.text) = joinN (ds.flatMap Dcl.rows) := by
  have := join_join (ds.map Dcl.rows) fun l hl => by
    obtain ⟨d, _, rfl⟩ := List.mem_map.mp hl
    intro q
    have := d.rows_pos
    rw [q] at this
    cases this
  rw [List.map_map] at this
  rw [List.flatMap_def]
  exact this
/-- what is read has just this text -/
theorem near_text {z : Str} {ds : List Dcl} (hz : ∀ r ∈ nearRs z, okR r) (hl : (nearRs z).length ≤ 1000000) (e : RdAll (nearRs z) 0 = .ok ds) : (∀ d ∈ ds, d.wf) ∧ joinN (ds.map Dcl.text) = z ∧ ds.flatMap Dcl.rows = nearRs z := by
  obtain ⟨h1, h2⟩ := rdAll_ok _ _ _ _ hz hl (Nat.zero_le _) e
  rw [List.drop_zero] at h2
  refine ⟨h1, ?_, h2.symm⟩
  rw [texts_join, ← h2, nearRs_join]
def errOf {α : Type} : Got α → Option Nat
  | .error k => some k
  | .ok _ => none
def toldL : List (Str × Nat) :=
  (⟨"kind K 0 1\ntype Set1", 2⟩ : Str × Nat) ::
  (⟨"kind K 0 0\ntype $0", 1⟩ : Str × Nat) ::
  (⟨"function f 1 1 open\ntype Set0\nleaf Set0", 0⟩ : Str × Nat) ::
  (⟨"function f 0 none open\ntype Set0\nbarred", 2⟩ : Str × Nat) ::
  (⟨"function F 0 none open\ntype Set0\nleaf Set0", 0⟩ : Str × Nat) ::
  (⟨"kind k 0 0\ntype Set0", 0⟩ : Str × Nat) ::
  (⟨"kind K 0 1\ntype Set0\nmaker m Set0", 2⟩ : Str × Nat) ::
  (⟨"function f 0 none open\ntype Set0\nleaf Set0\nleaf Set0", 3⟩ : Str × Nat) ::
  (⟨"function f 1 0 shut\ntype Set0\nsplit 0 2\nbarred", 4⟩ : Str × Nat) ::
  (⟨"", 0⟩ : Str × Nat) :: []
instance (z : Str) : Decidable (asc z) := inferInstanceAs (Decidable (∀ c ∈ cl z, c < 0x110000))
instance (z : Str) : Decidable (okR z) := inferInstanceAs (Decidable (_ ∧ _))
theorem told_err : ∀ p ∈ toldL, errOf (rdOne (rowsOf p.1)) = some p.2 := by
  have : (toldL.all fun p => decide (errOf (rdOne (rowsOf p.1)) = some p.2)) = true := by decide +kernel
  exact fun p hp => of_decide_eq_true (List.all_eq_true.mp this p hp)
theorem told_ok : ∀ p ∈ toldL, (rowsOf p.1).length ≤ 10 ∧ p.1.length ≤ 100 ∧ ∀ r ∈ rowsOf p.1, okR r := by
  have : (toldL.all fun p => decide ((rowsOf p.1).length ≤ 10 ∧ p.1.length ≤ 100 ∧ ∀ r ∈ rowsOf p.1, okR r)) = true := by decide +kernel
  exact fun p hp => of_decide_eq_true (List.all_eq_true.mp this p hp)
end RS

/-! Behind6: need_row, term_behind. -/
namespace RS
open PySem PySem.Spec PyProof.Rows L2 TL NdefX

structure rNR (CT : Addr) (vs : List V) (H : Hp) (Q : VK) (E : XK) : Prop where
  ex : ∃ (b : Bool) (n : Int), vs = [.bl b, .int n] ∧ (b = true → Q .non H) ∧ (b = false → ∀ d H', Same H H' → H d = none → H' d = some (.xd [("at", .int n)]) → E (.ref CT) (some d) H')
def spNR (CT : Addr) : Sp := fun vs H Q E => rNR CT vs H Q E
/-- rows that may be read -/
def okRs (rs : List Str) : Prop := rs.length ≤ 1000 ∧ ∀ z ∈ rs, okR z
theorem okR_len {z : Str} (h : okR z) : z.length ≤ 6500 := by
  have := join_cl_len (wsOf z) fun p hp => ⟨ws_free z p hp, (h.2 p hp).1⟩
  rw [ws_join] at this
  have := h.1
  omega
structure rTB (K : PySem.W.Frag) (CT : Addr) (vs : List V) (H : Hp) (Q : VK) (E : XK) : Prop where
  ex : ∃ (lr : Addr) (rs : List Str) (n k : Nat) (j : Int), vs = [.ref lr, .int j, .int (k : Nat)] ∧ j = n ∧ H lr = some (.lst (rs.map V.str)) ∧ okRs rs ∧ (∀ t, (∃ z, rs[n]? = some z ∧ tbz z k = some t) → ∀ v H', Same H H' → Dt K H' v t.pd → Q v H') ∧
    ((∀ z, rs[n]? = some z → tbz z k = none) → ∀ d H', Same H H' → H d = none → H' d = some (.xd [("at", .int (n : Nat))]) → E (.ref CT) (some d) H')
def spTB (K : PySem.W.Frag) (CT : Addr) : Sp := fun vs H Q E => rTB K CT vs H Q E
theorem ix_row {K : PySem.W.Frag} {lr : Addr} {rs : List Str} {n : Nat} {j : Int} {z : Str} {H : Hp} {Q : VK} (h : H lr = some (.lst (rs.map V.str))) (hj : j = n) (hz : rs[n]? = some z) (q : Q (.str z) H) : rIx K (.ref lr) (.int j) H Q := by
  subst hj
  exact ixl (SqL.of h) (by rw [List.getElem?_map, hz]; rfl) q
theorem cutV_to (xs : List V) (k : Nat) : cutV xs none (some (k : Int)) = xs.take k := by
  unfold cutV
  rw [HT.sIx_none, HT.sIx_nat, List.drop_zero, Nat.sub_zero, List.take_eq_take_iff]
  omega
theorem cutV_from (xs : List V) (k : Nat) : cutV xs (some (k : Int)) none = xs.drop k := by
  unfold cutV
  rw [HT.sIx_none, HT.sIx_nat]
  by_cases h : k ≤ xs.length
  · rw [Nat.min_eq_left h, List.take_of_length_le (by rw [List.length_drop]; omega)]
  · rw [Nat.min_eq_right (by omega), List.drop_of_length_le (by omega), List.drop_of_length_le (by omega)]; simp
/-! ### slices of lists of texts -/
theorem slT {K : PySem.W.Frag} {lw : Addr} {ws : List Str} {n : Nat} {H : Hp} {Q : VK} (h : H lw = some (.lst (ws.map V.str))) (k : ∀ p, H p = none → Q (.ref p) (upd H p (.lst ((ws.take n).map V.str)))) : rSlU K (.ref lw) none (some (n : Int)) H Q :=
  ⟨.inl ⟨lw, _, rfl, SqL.of h, fun p np => by have := k p np; rw [cutV_to, ← List.map_take]; exact this⟩⟩
theorem slF {K : PySem.W.Frag} {lw : Addr} {ws : List Str} {n : Nat} {H : Hp} {Q : VK} (h : H lw = some (.lst (ws.map V.str))) (k : ∀ p, H p = none → Q (.ref p) (upd H p (.lst ((ws.drop n).map V.str)))) : rSlU K (.ref lw) (some (n : Int)) none H Q :=
  ⟨.inl ⟨lw, _, rfl, SqL.of h, fun p np => by have := k p np; rw [cutV_from, ← List.map_drop]; exact this⟩⟩
section
variable {P : Program} {w : World} {K : PySem.W.Frag} {mg : Str → Option Value} {base : Heap}
theorem sc_need_row : FnScope ["right", "row"] ["right", "row"] (defScope s_need_row) := ⟨rfl, rfl, rfl, by decide +kernel, rfl, by decide +kernel, by decide +kernel⟩
theorem ok_need_row {f CT : Addr} {fd : FuncData} (F : Fun K "need_row" "need_row" s_need_row f fd) (Mv_BadText : MkX P w K mg base "BadText" CT 1 ["self", "at"] (spIni CT (fs1 "at") 1) ["at"] [0]) : FnOk P w K mg base (L2.CX P w) 3 f fd ["right", "row"] (spNR CT) := by
  refine F.okX sc_need_row (fun vs H Q E h => ?_) (fun cdv A outer s H vs Q E hr h => ?_)
  · obtain ⟨b, n, rfl, _⟩ := h.ex; rfl
  · obtain ⟨b, n, rfl, k1, k2⟩ := h.ex
    clear h
    have nd := sc_need_row.nd
    refine ⟨_, (pss_one (ps_if (pt_not (pt_val (pv 0)))
        (pss_one (ps_raise rfl (takes_of rfl rfl rfl rfl) (pmk_mkX Mv_BadText hr (by omega) (pa_cons (pv 1) pa_nil))))
        pss_nil)), ?_⟩
    refine ⟨_, rfl, _, rfl, ?_⟩
    cases b with
    | true => exact iteF (k1 rfl)
    | false => exact iteT ⟨_, rfl, raise_at fun d H' e nd hd => k2 rfl d H' e nd hd⟩
def tbBody : List Stmt := match (defBody s_term_behind).getD 1 (.Pass ⟨0, 0, 0, 0⟩) with
  | .Try b _ _ _ _ => b
  | _ => []
abbrev rJoinS (K : PySem.W.Frag) : V → List V → Hp → VK → Prop := fun x xs H Q => ∃ a p ys, x = V.str a ∧ xs = [V.ref p] ∧ (SqL K H p (List.map V.str ys) ∨ SqT K H p (List.map V.str ys)) ∧ (List.map (fun x => x.length) ys).sum + ys.length * a.length ≤ 16777216 ∧ Q (V.str (Txt.join a ys)) H
abbrev rSplitS : V → List V → Hp → VK → Prop := fun x xs H Q => ∃ a b, x = V.str a ∧ xs = [V.str b] ∧ (b.length == 0) = false ∧ a.length + 2 ≤ sizeLine ∧ rNewStrs (Txt.split a b) H Q
def tBehind (K : PySem.W.Frag) (CT : Addr) (W : WX) : TS := tRet (tDfS (spRT K CT) (WE W) (tCons (tM1 (rJoinS K) (tC (.str " ")) (tSl (rSlU K) (tM1 rSplitS (tOp (rIx K) (tVar 0) (tVar 1)) (tC (.str " "))) (tPart (tVar 2)) tNoPart)) tNil))
theorem sc_term_behind : FnScope ["rows", "row", "words_ahead", "error"] ["rows", "row", "words_ahead"] (defScope s_term_behind) := ⟨rfl, rfl, rfl, by decide +kernel, rfl, by decide +kernel, by decide +kernel⟩
theorem ok_term_behind {f CT : Addr} {fd : FuncData} (F : Fun K "term_behind" "term_behind" s_term_behind f fd) (n_len : mg "len" = none) (g_BadText : mg "BadText" = some (.ref CT)) (xM : PySem.W.exmOne K (.ref CT) (.ref CT) = some true) (rk : RaK K (.ref CT))
    (Mh_BadText : MkH P w K mg base "BadText" CT 1 ["self", "at"] (spIni CT (fs1 "at") 1))
    (Dneed_row : DfX P w K mg base "need_row" 3 ["right", "row"] (spNR CT)) (Dread_term : DfN P w K mg base "read_term" 6 ["text"] (spRT K CT)) : FnOk P w K mg base (L2.CX P w) 7 f fd ["rows", "row", "words_ahead"] (spTB K CT) := by
  refine F.okX sc_term_behind (fun vs H Q E h => ?_) (fun cdv A outer s H vs Q E hr h => ?_)
  · obtain ⟨lr, rs, n, k, j, rfl, _⟩ := h.ex; rfl
  · obtain ⟨lr, rs, n, k, j, rfl, hj, hlr, hrs, kQ, kE⟩ := h.ex
    clear h
    have nd := sc_term_behind.nd
    have hbody : ∀ (W : WX) (pn : List (Addr × Obj)) (xe : Value → Shared → Prop), L2N.Takes ((cxOf (L2.CX P w) P w K mg base ["rows", "row", "words_ahead", "error"] "term_behind" (defScope s_term_behind) f cdv A outer s H E).tr pn xe) W →
        PSs ((cxOf (L2.CX P w) P w K mg base ["rows", "row", "words_ahead", "error"] "term_behind" (defScope s_term_behind) f cdv A outer s H E).tr pn xe) tbBody (tBehind K CT W) := fun W pn xe tkW =>
      pss_one (ps_ret (pe_dfNS Dread_term hr (by omega) tkW (pa_cons (pe_join pe_str (pe_slice uSl (pe_split (pe_ix ix_seq (pv 0) (pv 1) (fun _ _ => rfl)) pe_str) (po_some (pv 2)) po_none)) pa_nil)))
    refine ⟨_, (pss_cons (ps_expr (pe_dfX Dneed_row hr (by omega) (passes_call (takes_of rfl rfl rfl rfl) fun _ _ _ _ h => h) (pa_cons (pe_cmpR op_lt (pv 1) (pe_callB uLen (by rfl) n_len (by decide +kernel) (pa_cons (pv 0) pa_nil)) (nomark _)) (pa_cons (pv 1) pa_nil))))
      (pss_one (ps_try_asX (i := 3) (c := .ref CT) (Wout := fun cls d _ H => E cls d H) (tb := tBehind K CT)
        (ts := fun a cls d => fun _ σ H => RaK K cls ∧ σ[3]? = some (some (.ref a)) ∧ tMkO CT (spIni CT (fs1 "at") 1) [] (tCons (tVar 1) tNil) σ H fun cls d H' => σ[3]? = some (some (.ref a)) → E cls d H')
        rfl rfl rfl nd rfl rfl ⟨rfl, by decide, .inl g_BadText⟩ (L2H.passesAt_of rfl) (takes_of rfl rfl rfl rfl) (fun _ _ _ _ h => h)
        (fun W pn xe tkW _ => hbody W pn xe tkW)
        (fun a oe cls d pn xe hz tkS hot => pss_one (ps_raiseHC (i := 3) hz.1 hot List.mem_cons_self tkS (pmk5_mkH Mh_BadText (L2H.roomH_mark hr _) (by omega) ⟨_, hot, List.mem_cons_self⟩ (pa_cons (pv 1) pa_nil)) rfl rfl))))), ?_⟩
    refine ⟨_, rfl, _, rfl, _, rs.length, rfl, lenW hlr, _, _, rfl, rfl, ⟨_, rfl, ⟨⟨_, _, rfl, fun hb => ?_, fun hb => ?_⟩⟩⟩⟩
    · have hlt : n < rs.length := by have := of_decide_eq_true hb; omega
      obtain ⟨z, hz⟩ : ∃ z, rs[n]? = some z := ⟨_, List.getElem?_eq_getElem hlt⟩
      have hzm : okR z := hrs.2 z (List.mem_of_getElem? hz)
      have hzl := okR_len hzm
      refine ⟨⟨_, rfl⟩, _, rfl, _, rfl, ix_row hlr hj hz ⟨⟨_, rfl⟩, z, " ", rfl, rfl, by decide +kernel, by rw [sizeLine_eq]; omega, fun lw nw => ?_⟩⟩
      have hws : ∀ p ∈ (wsOf z).drop k, okW p := fun p hp => ⟨ws_free z p (List.mem_of_mem_drop hp), (hzm.2 p (List.mem_of_mem_drop hp)).1⟩
      have hdl : ((wsOf z).drop k).length ≤ 100 := by rw [List.length_drop]; have := hzm.1; omega
      have hjl := join_cl_len _ hws
      have hsum := join_len _ hws
      have e1 : Same H (upd H lw (.lst ((wsOf z).map V.str))) := same_new nw
      refine ⟨_, rfl, _, rfl, slF (ws := wsOf z) upd_same fun p2 np2 => ⟨" ", p2, (wsOf z).drop k, rfl, rfl, .inl (SqL.of upd_same), by rw [show (" " : Str).length = 1 from rfl]; omega, ?_⟩⟩
      have e2 : Same H (upd (upd H lw (.lst ((wsOf z).map V.str))) p2 (.lst (((wsOf z).drop k).map V.str))) := e1.trans (same_new np2)
      generalize upd (upd H lw (.lst ((wsOf z).map V.str))) p2 (.lst (((wsOf z).drop k).map V.str)) = H2 at e2 ⊢
      have htl : (tws z k).length ≤ 101 ∧ ∀ p ∈ tws z k, p.length ≤ 100000 := by
        rw [tws_eq]
        by_cases hd : (wsOf z).drop k = []
        · rw [if_pos hd]
          exact ⟨Nat.le_add_left 1 100, fun p hp => by rw [List.mem_singleton.mp hp]; decide +kernel⟩
        · rw [if_neg hd]
          exact ⟨by omega, fun p hp => by have := (hws p hp).2; omega⟩
      refine ⟨⟨_, rfl, .inl ⟨_, tws z k, rfl, rfl, by omega, by omega, htl.2, ?_⟩⟩⟩
      cases hR : readT (tws z k) with
      | ok t =>
        intro v H3 e3 dv
        exact kQ t ⟨z, hz, by unfold tbz; rw [hR]⟩ v H3 (e2.trans e3) dv
      | error m =>
        intro d0 H3 e3 n0 h0
        refine ⟨xM, fun a na => ⟨rk, rfl, _, rfl, raise_at (Q := fun cls d H' => _ → E cls d H') fun d H' e nd hd _ => ?_⟩⟩
        subst hj
        refine kE (fun y hy => ?_) d H' (e2.trans (e3.trans e)) ((e2.trans e3).free nd) hd
        rw [hz] at hy
        cases hy
        unfold tbz
        rw [hR]
    · subst hj
      refine kE fun z hz => ?_
      have := (List.getElem?_eq_some_iff.mp hz).1
      have := of_decide_eq_false hb
      omega
end
end RS

/-! ReadK6: read_kind. -/
namespace RS
open PySem PySem.Spec PyProof.Rows L2 TL NdefX

def ci_MOST_ARGUMENTS : Int := 60
def ci_MOST_PLACES : Int := 1000000
/-- BadText(k) is let out from here -/
def badAt (CT : Addr) (E : XK) (H : Hp) (k : Nat) : Prop := ∀ d H', Same H H' → H d = none → H' d = some (.xd [("at", .int (k : Nat))]) → E (.ref CT) (some d) H'
theorem badAt.same {CT : Addr} {E : XK} {H H1 : Hp} {k : Nat} (b : badAt CT E H k) (e : Same H H1) : badAt CT E H1 k := fun d H' e2 n h => b d H' (e.trans e2) (e.free n) h
/-- what was read, and the row behind it; or where it breaks off -/
def got {α : Type} (K : PySem.W.Frag) (CT : Addr) (H : Hp) (Q : VK) (E : XK) (pd : α → PyData) (r : Got (α × Nat)) : Prop := match r with
  | .ok (d, m) => ∀ v H', Same H H' → Dt K H' v (.tuple [pd d, .int (m : Nat)]) → Q v H'
  | .error k => badAt CT E H k
structure rRd {α : Type} (st : Bool) (K : PySem.W.Frag) (CT : Addr) (pd : α → PyData) (f : List Str → Nat → Got (α × Nat)) (vs : List V) (H : Hp) (Q : VK) (E : XK) : Prop where
  ex : ∃ (lr : Addr) (rs : List Str) (n : Nat) (j : Int), vs = [.ref lr, .int j] ∧ j = n ∧ H lr = some (.lst (rs.map V.str)) ∧ okRs rs ∧ n ≤ rs.length ∧ (st = true → n < rs.length) ∧ got K CT H Q E pd (f (rs.drop n) n)
theorem nr_bad {CT : Addr} {n : Int} {m : Nat} {H : Hp} {Q : VK} {E : XK} (e : n = m) (b : badAt CT E H m) : spNR CT [.bl false, .int n] H Q E := by subst e; exact ⟨⟨false, _, rfl, (fun z => nomatch z), fun _ => b⟩⟩
theorem nr_ok {CT : Addr} {n : Int} {H : Hp} {Q : VK} {E : XK} (q : Q .non H) : spNR CT [.bl true, .int n] H Q E := ⟨⟨true, _, rfl, fun _ => q, (fun z => nomatch z)⟩⟩
def rdKf : List Str → Nat → Got (Dcl × Nat) := fun rs n => match rs with
  | [] => .error n
  | z :: r => rdK z r n
def spRdK (K : PySem.W.Frag) (CT : Addr) : Sp := fun vs H Q E => rRd true K CT Dcl.pd rdKf vs H Q E
theorem getD_at {ws : List Str} {i : Nat} (h : i < ws.length) : ws[i]? = some (ws.getD i "") := by
  rw [List.getD_eq_getElem?_getD, List.getElem?_eq_getElem h]; rfl
theorem ixw {K : PySem.W.Frag} {lw : Addr} {ws : List Str} {i : Nat} {H : Hp} {Q : VK} (h : H lw = some (.lst (ws.map V.str))) (hi : i < ws.length) (q : Q (.str (ws.getD i "")) H) : rIx K (.ref lw) (.int (i : Int)) H Q :=
  ixl (SqL.of h) (by rw [List.getElem?_map, getD_at hi]; rfl) q
theorem drop_row {rs : List Str} {n : Nat} {z : Str} (h : rs[n]? = some z) : rs.drop n = z :: rs.drop (n + 1) := by
  obtain ⟨hl, e⟩ := List.getElem?_eq_some_iff.mp h
  rw [List.drop_eq_getElem_cons hl, e]
theorem ws_len {z : Str} (h : okR z) (i : Nat) : ((wsOf z).getD i "").length ≤ 100000 := by
  by_cases hi : i < (wsOf z).length
  · have := (h.2 _ (List.mem_of_getElem? (getD_at hi))).1
    omega
  · rw [List.getD_eq_getElem?_getD, List.getElem?_eq_none (by omega)]
    decide +kernel
theorem dec_len {n m : Nat} {j : Int} (h : j = m) {b : Bool} (hb : decide (n = m) = b) : decide (V.int (n : Int) = V.int j) = b := by
  rw [← hb, Bool.eq_iff_iff, decide_eq_true_eq, decide_eq_true_eq]
  constructor
  · intro q; injection q with q; omega
  · intro q; rw [q, h]
section
variable {P : Program} {w : World} {K : PySem.W.Frag} {mg : Str → Option Value} {base : Heap}
theorem sc_read_kind : FnScope ["rows", "row", "words", "turn", "many", "makers", "type_here", "found", "spot", "name", "made"] ["rows", "row"] (defScope s_read_kind) := ⟨rfl, rfl, rfl, by decide +kernel, rfl, by decide +kernel, by decide +kernel⟩
theorem ok_read_kind {f CT : Addr} {fd : FuncData} {t1 : Tok} (F : Fun K "read_kind" "read_kind" s_read_kind f fd) (n_len : mg "len" = none) (n_range : mg "range" = none) (n_tuple : mg "tuple" = none) (g_MOST_ARGUMENTS : mg "MOST_ARGUMENTS" = some (.int ci_MOST_ARGUMENTS t1))
    (Dneed_row : DfX P w K mg base "need_row" 3 ["right", "row"] (spNR CT)) (Dterm_behind : DfX P w K mg base "term_behind" 7 ["rows", "row", "words_ahead"] (spTB K CT))
    (Dis_capital : Df P w K mg base "is_capital" 2 ["value"] spCap) (Dis_closed : Df P w K mg base "is_closed" 2 ["term"] (spClo K)) (Dread_number : Df P w K mg base "read_number" 1 ["word"] spRN) : FnOk P w K mg base (L2.CX P w) 8 f fd ["rows", "row"] (spRdK K CT) := by
  refine F.okX sc_read_kind (fun vs H Q E h => ?_) (fun cdv A outer s H vs Q E hr h => ?_)
  · obtain ⟨lr, rs, n, j, rfl, _⟩ := h.ex; rfl
  · obtain ⟨lr, rs, n, j, rfl, hj, hlr, hrs, _, hlt, k⟩ := h.ex
    clear h
    have hlt := hlt rfl
    have nd := sc_read_kind.nd
    obtain ⟨z, hz⟩ : ∃ z, rs[n]? = some z := ⟨_, List.getElem?_eq_getElem hlt⟩
    have hzm : okR z := hrs.2 z (List.mem_of_getElem? hz)
    have hzl := okR_len hzm
    have hwl := ws_len hzm
    have hrl := hrs.1
    rw [drop_row hz] at k
    have k : got K CT H Q E Dcl.pd (rdK z (rs.drop (n + 1)) n) := k
    refine ⟨_, (pss_cons (ps_set (i := 2) nd rfl (Or.inl rfl) (pe_split (pe_ix ix_seq (pv 0) (pv 1) (fun _ _ => rfl)) pe_str))
      (pss_cons (ps_expr (pe_dfX Dneed_row hr (by omega) (passes_call (takes_of rfl rfl rfl rfl) fun _ _ _ _ h => h) (pa_cons (pe_and (pe_cmpR (uEq hr.units) (pe_callB uLen (by rfl) n_len (by decide +kernel) (pa_cons (pv 2) pa_nil)) pe_int (nomark _)) (pe_and (pe_cmpR (uEq hr.units) (pe_ix ix_seq (pv 2) pe_int (fun _ _ => rfl)) pe_str (nomark _)) (pe_one (pe_df Dis_capital hr (by omega) (pa_cons (pe_ix ix_seq (pv 2) pe_int (fun _ _ => rfl)) pa_nil))))) (pa_cons (pv 1) pa_nil))))
      (pss_cons (ps_par (i := 4) (j := 5) rfl nd rfl rfl (by decide) rfl rfl (pa_cons (pe_df Dread_number hr (by omega) (pa_cons (pe_ix ix_seq (pv 2) pe_int (fun _ _ => rfl)) pa_nil)) (pa_cons (pe_df Dread_number hr (by omega) (pa_cons (pe_ix ix_seq (pv 2) pe_int (fun _ _ => rfl)) pa_nil)) pa_nil)) rfl)
      (pss_cons (ps_expr (pe_dfX Dneed_row hr (by omega) (passes_call (takes_of rfl rfl rfl rfl) fun _ _ _ _ h => h) (pa_cons (pe_and (pe_cmpR op_notN (pv 4) pe_non (nomark _)) (pe_and (pe_cmpR op_le (pv 4) (pe_glob (v := .int ci_MOST_ARGUMENTS) rfl g_MOST_ARGUMENTS ⟨_, rfl⟩) (nomark _)) (pe_one (pe_cmpR op_notN (pv 5) pe_non (nomark _))))) (pa_cons (pv 1) pa_nil))))
      (pss_cons (ps_expr (pe_dfX Dneed_row hr (by omega) (passes_call (takes_of rfl rfl rfl rfl) fun _ _ _ _ h => h) (pa_cons (pe_and (pe_cmpR op_lt (pe_op uAdd (pv 1) pe_int) (pe_callB uLen (by rfl) n_len (by decide +kernel) (pa_cons (pv 0) pa_nil)) (nomark _)) (pe_one (pe_cmpR (uEq hr.units) (pe_slice uSl (pe_ix ix_seq (pv 0) (pe_op uAdd (pv 1) pe_int) (fun _ _ => rfl)) po_none (po_some pe_int)) pe_str (nomark _)))) (pa_cons (pe_op uAdd (pv 1) pe_int) pa_nil))))
      (pss_cons (ps_par (i := 6) (j := 7) rfl nd rfl rfl (by decide) rfl rfl (pa_cons (pe_dfX Dterm_behind hr (by omega) (passes_call (takes_of rfl rfl rfl rfl) fun _ _ _ _ h => h) (pa_cons (pv 0) (pa_cons (pe_op uAdd (pv 1) pe_int) (pa_cons pe_int pa_nil)))) (pa_cons (pe_lstN pa_nil) pa_nil)) rfl)
      (pss_cons (ps_expr (pe_dfX Dneed_row hr (by omega) (passes_call (takes_of rfl rfl rfl rfl) fun _ _ _ _ h => h) (pa_cons (pe_df Dis_closed hr (by omega) (pa_cons (pv 6) pa_nil)) (pa_cons (pe_op uAdd (pv 1) pe_int) pa_nil))))
      (pss_cons (ps_for (passes_of rfl) rfl (pi_range1 rfl n_range (pa_cons (pv 5) pa_nil)) (pg_name (i := 3) nd rfl (Or.inl rfl))
        (pss_cons (ps_set (i := 8) nd rfl (Or.inl rfl) (pe_op uAdd (pe_op uAdd (pv 1) pe_int) (pv 3)))
        (pss_cons (ps_expr (pe_dfX Dneed_row hr (by omega) (passes_call (takes_of rfl rfl rfl rfl) fun _ _ _ _ h => h) (pa_cons (pe_and (pe_cmpR op_lt (pv 8) (pe_callB uLen (by rfl) n_len (by decide +kernel) (pa_cons (pv 0) pa_nil)) (nomark _)) (pe_one (pe_cmpR (uEq hr.units) (pe_slice uSl (pe_ix ix_seq (pv 0) (pv 8) (fun _ _ => rfl)) po_none (po_some pe_int)) pe_str (nomark _)))) (pa_cons (pv 8) pa_nil))))
        (pss_cons (ps_set (i := 9) nd rfl (Or.inl rfl) (pe_ix ix_seq (pe_split (pe_ix ix_seq (pv 0) (pv 8) (fun _ _ => rfl)) pe_str) pe_int (fun _ _ => rfl)))
        (pss_cons (ps_expr (pe_dfX Dneed_row hr (by omega) (passes_call (takes_of rfl rfl rfl rfl) fun _ _ _ _ h => h) (pa_cons (pe_df Dis_capital hr (by omega) (pa_cons (pv 9) pa_nil)) (pa_cons (pv 8) pa_nil))))
        (pss_cons (ps_set (i := 10) nd rfl (Or.inl rfl) (pe_dfX Dterm_behind hr (by omega) (passes_call (takes_of rfl rfl rfl rfl) fun _ _ _ _ h => h) (pa_cons (pv 0) (pa_cons (pv 8) (pa_cons pe_int pa_nil)))))
        (pss_cons (ps_expr (pe_dfX Dneed_row hr (by omega) (passes_call (takes_of rfl rfl rfl rfl) fun _ _ _ _ h => h) (pa_cons (pe_df Dis_closed hr (by omega) (pa_cons (pv 10) pa_nil)) (pa_cons (pv 8) pa_nil))))
        (pss_one (ps_expr (pe_bm PySem.F.plainAttrs_list PySem.F.slot_list_append PySem.F.type_list_append mt_append (pv 7) (pa_cons (pe_tupN (pa_cons (pv 9) (pa_cons (pv 10) pa_nil))) pa_nil)))))))))))
      (pss_one (ps_ret (pe_tupN (pa_cons (pe_tupN (pa_cons pe_str (pa_cons (pe_ix ix_seq (pv 2) pe_int (fun _ _ => rfl)) (pa_cons (pv 4) (pa_cons (pv 6) (pa_cons (pe_callTy call_tuple_of (by rfl) n_tuple (by decide +kernel) (pa_cons (pv 7) pa_nil)) pa_nil)))))) (pa_cons (pe_op uAdd (pe_op uAdd (pv 1) pe_int) (pv 5)) pa_nil))))))))))))), ?_⟩
    refine ⟨_, rfl, _, rfl, ix_row hlr hj hz ⟨⟨_, rfl⟩, z, " ", rfl, rfl, by decide +kernel, by rw [sizeLine_eq]; omega, fun lw nw => ?_⟩⟩
    have e1 : Same H (upd H lw (.lst ((wsOf z).map V.str))) := same_new nw
    have hw1 : upd H lw (.lst ((wsOf z).map V.str)) lw = some (.lst ((wsOf z).map V.str)) := upd_same
    generalize upd H lw (.lst ((wsOf z).map V.str)) = H1 at e1 hw1 ⊢
    unfold rdK at k
    have hd0 : kindHd (wsOf z) = false → badAt CT E H n := fun hk => by rw [if_neg (by rw [hk]; decide)] at k; exact k
    have hd1 : kindHd (wsOf z) = (decide ((wsOf z).length = 4) && (decide ((wsOf z).getD 0 "" = "kind") && isCap ((wsOf z).getD 1 ""))) := rfl
    refine ⟨_, rfl, _, (wsOf z).length, rfl, .inl ⟨_, SqL.of hw1, by simp⟩, eq_f (b := decide ((wsOf z).length = 4)) rfl (by rw [Bool.false_xor]; exact dec_len rfl rfl) ⟨_, rfl, ite2 (fun h4 => ?_) (fun h4 => ?_)⟩⟩
    rotate_left
    · exact ⟨_, rfl, nr_bad hj ((hd0 (by rw [hd1, eq_false_of_ne_true h4]; rfl)).same e1)⟩
    have l4 := of_decide_eq_true h4
    rw [h4, Bool.true_and] at hd1
    refine ⟨_, rfl, ixw (i := 0) hw1 (by omega) (eq_str (b := decide ((wsOf z).getD 0 "" = "kind")) (Bool.false_xor _) ⟨_, rfl, ite2 (fun h5 => ?_) (fun h5 => ?_)⟩)⟩
    rotate_left
    · exact ⟨_, rfl, nr_bad hj ((hd0 (by rw [hd1, eq_false_of_ne_true h5]; rfl)).same e1)⟩
    rw [h5, Bool.true_and] at hd1
    refine ⟨_, rfl, ixw (i := 1) hw1 (by omega) ⟨⟨_, rfl, hwl 1, fun H2 e2 => ⟨_, rfl, ?_⟩⟩⟩⟩
    cases hcap : isCap ((wsOf z).getD 1 "") with
    | false => exact nr_bad hj ((hd0 (hd1.trans hcap)).same (e1.trans e2))
    | true =>
    rw [hcap] at hd1
    rw [if_pos hd1] at k
    refine nr_ok ?_
    have hw2 := e2 _ _ hw1
    replace e2 := e1.trans e2
    clear hd0 hd1 e1 hw1 h4 h5
    refine ⟨_, rfl, ixw (i := 2) hw2 (by omega) ⟨⟨_, rfl, hwl 2, fun H3 e3 => ?_⟩⟩⟩
    have hw3 := e3 _ _ hw2
    replace e3 := e2.trans e3
    clear e2 hw2
    refine ⟨_, rfl, ixw (i := 3) hw3 (by omega) ⟨⟨_, rfl, hwl 3, fun H4 e4 => ?_⟩⟩⟩
    have hw4 := e4 _ _ hw3
    replace e4 := e3.trans e4
    clear e3 hw3
    unfold numV
    cases hm2 : readNum ((wsOf z).getD 2 "") with
    | none =>
      rw [hm2] at k
      have k : badAt CT E H n := k
      refine ⟨_, _, rfl, _, rfl, rfl, _, rfl, ?_⟩
      exact iteF ⟨_, rfl, nr_bad hj (k.same e4)⟩
    | some many =>
    refine ⟨_, _, rfl, _, rfl, rfl, _, rfl, iteT ⟨_, rfl, _, _, rfl, rfl, _, rfl, ite2 (fun h6 => ?_) (fun h6 => ?_)⟩⟩
    rotate_left
    · have h6 : ¬ many ≤ 60 := fun q => h6 (decide_eq_true (by show (many : Int) ≤ 60; omega))
      have k : badAt CT E H n := by
        rw [hm2] at k
        cases hm3 : readNum ((wsOf z).getD 3 "") with
        | none => rw [hm3] at k; exact k
        | some mk =>
          rw [hm3] at k
          dsimp only at k
          rw [if_neg h6] at k; exact k
      exact ⟨_, rfl, nr_bad hj (k.same e4)⟩
    have h6 : many ≤ 60 := by
      have q : (many : Int) ≤ 60 := of_decide_eq_true h6
      omega
    cases hm3 : readNum ((wsOf z).getD 3 "") with
    | none =>
      rw [hm2, hm3] at k
      have k : badAt CT E H n := k
      exact ⟨_, rfl, rfl, ⟨_, rfl, nr_bad hj (k.same e4)⟩⟩
    | some mk =>
    have hmk := (readNum_lt hm3).1
    rw [hm2, hm3] at k
    dsimp only at k
    rw [if_pos h6] at k
    refine ⟨_, rfl, rfl, ⟨_, rfl, nr_ok ?_⟩⟩
    have hlr4 := e4 _ _ hlr
    -- the type's row
    have bad1 : rdTy (rs.drop (n + 1)) = none → badAt CT E H (n + 1) := fun q => by rw [q] at k; exact k
    refine ⟨_, rfl, add_i ⟨_, rfl, _, rs.length, rfl, lenW hlr4, _, _, rfl, rfl, ⟨_, rfl, ite2 (fun h7 => ?_) (fun h7 => ?_)⟩⟩⟩
    rotate_left
    · have h7 : ¬ n + 1 < rs.length := fun q => h7 (decide_eq_true (by omega))
      exact ⟨_, rfl, add_i (nr_bad (m := n + 1) (by omega) ((bad1 (by rw [List.drop_of_length_le (by omega)]; rfl)).same e4))⟩
    have h7 : n + 1 < rs.length := by have := of_decide_eq_true h7; omega
    obtain ⟨y, hy⟩ : ∃ y, rs[n + 1]? = some y := ⟨_, List.getElem?_eq_getElem h7⟩
    have hym : okR y := hrs.2 y (List.mem_of_getElem? hy)
    have hyl := okR_len hym
    rw [drop_row hy] at bad1 k
    have hty : rdTy (y :: rs.drop (n + 1 + 1)) = if cutS y none (some (5 : Nat)) = "type " then (match tbz y 1 with
      | some t => if t.closed 0 = true then some t else none
      | none => none) else none := rfl
    refine ⟨_, rfl, _, rfl, add_i (ix_row hlr4 (show j + 1 = ((n + 1 : Nat) : Int) by omega) hy ⟨_, rfl, sl_s (by omega) (eq_str (b := decide (cutS y none (some ((5 : Nat) : Int)) = "type ")) (Bool.false_xor _) ⟨_, rfl, add_i ?_⟩)⟩)⟩
    by_cases h8 : cutS y none (some ((5 : Nat) : Int)) = "type "
    rotate_left
    · rw [decide_eq_false h8]
      exact nr_bad (m := n + 1) (by omega) ((bad1 (by rw [hty, if_neg h8])).same e4)
    rw [decide_eq_true h8]
    rw [if_pos h8] at hty
    refine nr_ok ?_
    refine ⟨_, rfl, _, rfl, add_i ⟨⟨lr, rs, n + 1, 1, _, rfl, by omega, hlr4, hrs, fun t ⟨y', hy', ht⟩ v5 H5 e5 dv5 => ?_, fun hno d H' q1 q2 q3 => ?_⟩⟩⟩
    rotate_left
    · have : tbz y 1 = none := hno y hy
      rw [this] at hty
      exact ((bad1 hty).same e4) d H' q1 q2 q3
    rw [hy] at hy'
    cases hy'
    rw [ht] at hty
    dsimp only at hty
    obtain ⟨⟨twf, tlen⟩, _⟩ := tbz_ok hym ht
    have tnodes := nodes_le t
    have hw5 : H5 lw = some (.lst ((wsOf z).map V.str)) := e5 _ _ hw4
    replace e5 := e4.trans e5
    refine lst_new (Nat.zero_le _) fun lf nlf => ⟨_, _, rfl, ?_⟩
    have e6 : Same H (upd H5 lf (.lst [])) := e5.trans (same_new nlf)
    have hw6 : upd H5 lf (.lst []) lw = some (.lst ((wsOf z).map V.str)) := (upd_ne (ne_of_none hw5 nlf)).trans hw5
    have hf6 : upd H5 lf (.lst []) lf = some (.lst []) := upd_same
    have dv6 := dv5.same (same_new (o := .lst []) nlf)
    have nlw : lw ≠ lf := ne_of_none hw5 nlf
    have nlf0 : H lf = none := e5.free nlf
    generalize upd H5 lf (.lst []) = H6 at e6 hw6 hf6 dv6 ⊢
    clear e4 e5 hw4 hw5 dv5 hlr4 nlf nw
    refine ⟨_, rfl, ⟨⟨v5, t, rfl, dv6, twf, by omega, fun H7 e7 => ⟨_, rfl, add_i ?_⟩⟩⟩⟩
    cases hcl : t.closed 0 with
    | false =>
      rw [hcl, if_neg (by decide)] at hty
      exact nr_bad (m := n + 1) (by omega) ((bad1 hty).same (e6.trans e7))
    | true =>
    rw [hcl, if_pos rfl] at hty
    rw [hty] at k
    dsimp only at k
    rw [show (y :: rs.drop (n + 1 + 1)).drop 1 = rs.drop (n + 2) from rfl] at k
    clear bad1 hty
    refine nr_ok ?_
    have hw7 := e7 _ _ hw6
    have hf7 := e7 _ _ hf6
    have dv7 := dv6.same e7
    replace e7 := e6.trans e7
    clear e6 hw6 hf6 dv6
    obtain ⟨R, hR⟩ : ∃ R, R = rdM (rs.drop (n + 2)) (n + 2) mk := ⟨_, rfl⟩
    rw [← hR] at k
    refine ⟨_, rfl, mk, rfl, by omega, by omega, for_range (fun i σ H8 => ∃ (ms : List (Str × Tm)) (vals : List V) (x3 x8 x9 x10 : Option V), σ = [some (.ref lr), some (.int j), some (.ref lw), x3, some (.int many), some (.int mk), some v5, some (.ref lf), x8, x9, x10] ∧
        Same H H8 ∧ H8 lf = some (.lst vals) ∧ DtAll K H8 vals (ms.map mkD) ∧ Dt K H8 v5 t.pd ∧ H8 lw = some (.lst ((wsOf z).map V.str)) ∧ ms.length = i ∧ i ≤ mk ∧ (i = 0 ∨ n + 2 + i ≤ rs.length) ∧ R = (match rdM (rs.drop (n + 2 + i)) (n + 2 + i) (mk - i) with
          | .ok ms' => .ok (ms ++ ms')
          | .error k => .error k))
      ⟨[], [], _, _, _, _, rfl, e7, hf7, .nil, dv7, hw7, rfl, Nat.zero_le _, .inl rfl, ?_⟩ ?_ ?_⟩
    · rw [hR]
      show rdM (rs.drop (n + 2)) (n + 2) mk = match rdM (rs.drop (n + 2)) (n + 2) mk with
          | .ok ms' => .ok ([] ++ ms')
          | .error k => .error k
      cases rdM (rs.drop (n + 2)) (n + 2) mk <;> rfl
    · rintro i σ H8 hi ⟨ms, vals, x3, x8, x9, x10, rfl, e8, hf8, dA, dv8, hw8, hms, him, hin, hR⟩
      clear e7 hf7 dv7 hw7
      have hi : i < mk := by omega
      have hlr8 := e8 _ _ hlr
      obtain ⟨q, hq⟩ : ∃ q, mk - i = q + 1 := ⟨mk - i - 1, by omega⟩
      rw [hq] at hR
      have badR : ∀ m, R = .error m → badAt CT E H m := fun m e => by rw [e] at k; exact k
      refine ⟨_, rfl, add_i ⟨_, rfl, add_i ?_⟩⟩
      have hsp : j + 2 + (0 + (i : Int)) = ((n + 2 + i : Nat) : Int) := by omega
      rw [hsp]
      refine ⟨_, rfl, _, rfl, _, rs.length, rfl, lenW hlr8, _, _, rfl, rfl, ⟨_, rfl, ite2 (fun h9 => ?_) (fun h9 => ?_)⟩⟩
      rotate_left
      · have h9 : ¬ n + 2 + i < rs.length := fun q => h9 (decide_eq_true (by omega))
        rw [List.drop_of_length_le (by omega)] at hR
        exact ⟨_, rfl, nr_bad rfl ((badR _ (by rw [hR]; unfold rdM; rfl)).same e8)⟩
      have h9 : n + 2 + i < rs.length := by have := of_decide_eq_true h9; omega
      obtain ⟨x, hx⟩ : ∃ x, rs[n + 2 + i]? = some x := ⟨_, List.getElem?_eq_getElem h9⟩
      have hxm : okR x := hrs.2 x (List.mem_of_getElem? hx)
      have hxl := okR_len hxm
      rw [drop_row hx] at hR
      have hMe : rdM (x :: rs.drop (n + 2 + i + 1)) (n + 2 + i) (q + 1) = if cutS x none (some (6 : Nat)) = "maker " ∧ isCap ((wsOf x).getD 1 "") = true then match tbz x 2 with
          | some t => if t.closed 0 = true then (match rdM (rs.drop (n + 2 + i + 1)) (n + 2 + i + 1) q with
              | .ok ms => .ok (((wsOf x).getD 1 "", t) :: ms)
              | .error j => .error j) else .error (n + 2 + i)
          | none => .error (n + 2 + i)
        else .error (n + 2 + i) := rfl
      refine ⟨_, rfl, _, rfl, ix_row hlr8 rfl hx ⟨_, rfl, sl_s (by omega) (eq_str (b := decide (cutS x none (some ((6 : Nat) : Int)) = "maker ")) (Bool.false_xor _) ⟨_, rfl, ?_⟩)⟩⟩
      by_cases h10 : cutS x none (some ((6 : Nat) : Int)) = "maker "
      rotate_left
      · rw [decide_eq_false h10]
        rw [if_neg (fun z => h10 z.1)] at hMe
        exact nr_bad rfl ((badR _ (by rw [hR, hMe])).same e8)
      rw [decide_eq_true h10]
      refine nr_ok ?_
      obtain ⟨b, l, ews⟩ := first_word (p := "maker") (k := 6) (by decide +kernel) (by decide +kernel) (h10.trans (by decide +kernel))
      have hl2 : 1 < (wsOf x).length := by rw [ews]; simp
      refine ⟨_, rfl, _, rfl, ix_row hlr8 rfl hx ⟨⟨_, rfl⟩, x, " ", rfl, rfl, by decide +kernel, by rw [sizeLine_eq]; omega, fun lx nx => ?_⟩⟩
      have e9 : Same H8 (upd H8 lx (.lst ((wsOf x).map V.str))) := same_new nx
      have hx9 : upd H8 lx (.lst ((wsOf x).map V.str)) lx = some (.lst ((wsOf x).map V.str)) := upd_same
      generalize upd H8 lx (.lst ((wsOf x).map V.str)) = H9 at e9 hx9 ⊢
      refine ixw (i := 1) hx9 hl2 ⟨_, rfl, ⟨⟨_, rfl, ws_len hxm 1, fun H10 e10 => ⟨_, rfl, ?_⟩⟩⟩⟩
      replace e10 := e9.trans e10
      cases hcap2 : isCap ((wsOf x).getD 1 "") with
      | false =>
        rw [if_neg (fun z => by rw [hcap2] at z; cases z.2)] at hMe
        exact nr_bad rfl ((badR _ (by rw [hR, hMe])).same (e8.trans e10))
      | true =>
      rw [if_pos ⟨h10, hcap2⟩] at hMe
      refine nr_ok ?_
      refine ⟨_, rfl, _, rfl, ⟨⟨lr, rs, n + 2 + i, 2, _, rfl, rfl, e10 _ _ hlr8, hrs, fun t2 ⟨x', hx', ht2⟩ v10 H11 e11 dv11 => ?_, fun hno => ?_⟩⟩⟩
      rotate_left
      · rw [hno x hx] at hMe
        exact (badR _ (by rw [hR, hMe])).same (e8.trans e10)
      rw [hx] at hx'
      cases hx'
      rw [ht2] at hMe
      dsimp only at hMe
      obtain ⟨⟨t2wf, t2len⟩, _⟩ := tbz_ok hxm ht2
      have t2nodes := nodes_le t2
      replace e11 := e10.trans e11
      refine ⟨_, rfl, ⟨⟨v10, t2, rfl, dv11, t2wf, by omega, fun H12 e12 => ⟨_, rfl, ?_⟩⟩⟩⟩
      have dv12 := dv11.same e12
      replace e12 := e11.trans e12
      cases hcl2 : t2.closed 0 with
      | false =>
        rw [hcl2, if_neg (by decide)] at hMe
        exact nr_bad rfl ((badR _ (by rw [hR, hMe])).same (e8.trans e12))
      | true =>
      rw [hcl2, if_pos rfl] at hMe
      refine nr_ok ?_
      have hf12 := e12 _ _ hf8
      refine ⟨_, rfl, .inl ⟨rfl, _, SqL.of hf12⟩, _, rfl, _, rfl, tup_new (K := K) (ds := [.str ((wsOf x).getD 1 ""), t2.pd]) (.cons (.str _) (.cons dv12 .nil)) (by show 2 ≤ 1000; decide) fun vt H13 e13 dvt => ?_⟩
      have hf13 := e13 _ _ hf12
      have lv := dA.length
      rw [List.length_map, hms] at lv
      refine ⟨lf, _, _, rfl, rfl, hf13, lt_line (by omega), ?_⟩
      replace e13 := e12.trans e13
      have tk : TK K H13 (upd H13 lf (.lst (vals ++ [vt]))) := TK.lst hf13
      refine ⟨ms ++ [((wsOf x).getD 1 "", t2)], vals ++ [vt], _, _, _, _, rfl, ?_, upd_same, ?_, Dt.keep tk _ (dv8.same e13), ?_, by rw [List.length_append, hms]; rfl, by omega, .inr (by omega), ?_⟩
      · exact same_mut (e8.trans e13) nlf0
      · rw [List.map_append]
        exact (DtAll.keep tk _ (DtAll.keep (TK.same e13) _ dA)).append (.cons (Dt.keep tk _ dvt) .nil)
      · rw [upd_ne nlw]; exact e13 _ _ hw8
      · rw [hR, hMe, show mk - (i + 1) = q by omega, show n + 2 + (i + 1) = n + 2 + i + 1 by omega]
        cases rdM (rs.drop (n + 2 + i + 1)) (n + 2 + i + 1) q with
        | error k => rfl
        | ok ms' => show Except.ok (ms ++ (((wsOf x).getD 1 "", t2) :: ms')) = Except.ok ((ms ++ [((wsOf x).getD 1 "", t2)]) ++ ms'); simp
    · rintro σ H8 ⟨ms, vals, x3, x8, x9, x10, rfl, e8, hf8, dA, dv8, hw8, hms, him, hin, hR⟩
      have hz0 : mk - (mk : Int).toNat = 0 := by omega
      rw [hz0] at hR
      have hR : R = .ok ms := by
        rw [hR]
        unfold rdM
        show Except.ok (ms ++ []) = _
        rw [List.append_nil]
      rw [hR] at k
      have k : ∀ v H', Same H H' → Dt K H' v (.tuple [(Dcl.kind ((wsOf z).getD 1 "") many t ms).pd, .int ((n + 2 + mk : Nat) : Int)]) → Q v H' := k
      refine ⟨_, rfl, ixw (i := 1) hw8 (by omega) ⟨_, rfl, _, rfl, _, rfl, lf, vals, rfl, .inl ⟨SqL.of hf8, fun T nT => ?_⟩⟩⟩
      have e9 : Same H8 (upd H8 T (.tup vals)) := same_new nT
      have hT : SqT K (upd H8 T (.tup vals)) T vals := SqT.of upd_same
      have dT : Dt K (upd H8 T (.tup vals)) (.ref T) (.tuple (ms.map mkD)) := .tup hT (DtAll.keep (TK.same e9) _ dA)
      have dv9 := dv8.same e9
      generalize upd H8 T (.tup vals) = H9 at e9 dT dv9 ⊢
      replace e9 := e8.trans e9
      refine tup_new (K := K) (ds := [.str "kind", .str ((wsOf z).getD 1 ""), .int (many : Nat), t.pd, .tuple (ms.map mkD)]) (.cons (.str _) (.cons (.str _) (.cons (.int _) (.cons dv9 (.cons dT .nil))))) (by show 5 ≤ 1000; decide) fun vk H10 e10 dk => ?_
      refine ⟨_, rfl, add_i ⟨_, rfl, add_i ?_⟩⟩
      have hsp : j + 2 + (mk : Int) = ((n + 2 + mk : Nat) : Int) := by omega
      rw [hsp]
      refine tup_new (K := K) (ds := [(Dcl.kind ((wsOf z).getD 1 "") many t ms).pd, .int ((n + 2 + mk : Nat) : Int)]) (.cons dk (.cons (.int _) .nil)) (by show 2 ≤ 1000; decide) fun vr H11 e11 dr => ?_
      exact k vr H11 (e9.trans (e10.trans e11)) dr
end
end RS

/-! Ops6: the splits that are being read, as a list of lists. -/
namespace RS
open PySem PySem.Spec PyProof.Rows L2 TL NdefX

def tot : List Op → Nat
  | [] => 0
  | o :: os => tot os + (o.bs.length + 1)
theorem len_tot : ∀ os : List Op, os.length ≤ tot os
  | [] => Nat.le_refl _
  | o :: os => by have := len_tot os; simp only [tot, List.length_cons]; omega
theorem goOn_nil {t : Tr} {rs : List Str} {n : Nat} : goOn t [] rs n = .ok (t, n) := by unfold goOn closeO; rfl
theorem goOn_more {t : Tr} {o : Op} {os : List Op} {rs : List Str} {n : Nat} (h : o.bs.length + 1 < o.m) : goOn t (o :: os) rs n = rdT rs n (⟨o.p, o.m, o.bs ++ [t]⟩ :: os) := by
  unfold goOn; conv => lhs; unfold closeO
  rw [if_pos h]
theorem goOn_end {t : Tr} {o : Op} {os : List Op} {rs : List Str} {n : Nat} (h : ¬ o.bs.length + 1 < o.m) : goOn t (o :: os) rs n = goOn (.split o.p (o.bs ++ [t])) os rs n := by
  unfold goOn; conv => lhs; unfold closeO
  rw [if_neg h]
abbrev opV (o : Op) (b : Addr) : List V := [.int (o.p : Nat), .int (o.m : Nat), .ref b]
def OpAt (K : PySem.W.Frag) (H : Hp) (a b : Addr) (o : Op) : Prop := H a = some (.lst (opV o b)) ∧ ∃ vals, H b = some (.lst vals) ∧ DtAll K H vals (o.bs.map Tr.pd)
inductive OStk (K : PySem.W.Frag) (H : Hp) : List (Addr × Addr) → List Op → Prop
  | nil : OStk K H [] []
  | cons {a b as o os} : OpAt K H a b o → OStk K H as os → OStk K H ((a, b) :: as) (o :: os)
theorem OStk.len {K : PySem.W.Frag} {H : Hp} {as : List (Addr × Addr)} {os : List Op} (s : OStk K H as os) : as.length = os.length := by
  induction s with
  | nil => rfl
  | cons _ _ ih => rw [List.length_cons, List.length_cons, ih]
/-- all addresses -/
def adrs : List (Addr × Addr) → List Addr
  | [] => []
  | (a, b) :: as => a :: b :: adrs as
theorem OStk.held {K : PySem.W.Frag} {H : Hp} {as : List (Addr × Addr)} {os : List Op} (s : OStk K H as os) : ∀ x ∈ adrs as, ∃ xs, H x = some (.lst xs) := by
  induction s with
  | nil => intro x h; cases h
  | cons h _ ih =>
    obtain ⟨h1, vals, h2, _⟩ := h
    intro x hx
    rcases List.mem_cons.mp hx with rfl | hx
    · exact ⟨_, h1⟩
    · rcases List.mem_cons.mp hx with rfl | hx
      · exact ⟨_, h2⟩
      · exact ih x hx
theorem OStk.keep {K : PySem.W.Frag} {H H' : Hp} {as : List (Addr × Addr)} {os : List Op} (s : OStk K H as os) (tk : TK K H H') (e : ∀ x ∈ adrs as, ∀ o, H x = some o → H' x = some o) : OStk K H' as os := by
  induction s with
  | nil => exact .nil
  | cons h _ ih =>
    obtain ⟨h1, vals, h2, h3⟩ := h
    exact .cons ⟨e _ List.mem_cons_self _ h1, vals, e _ (List.mem_cons_of_mem _ List.mem_cons_self) _ h2, DtAll.keep tk _ h3⟩ (ih fun x hx => e x (List.mem_cons_of_mem _ (List.mem_cons_of_mem _ hx)))
abbrev refsO (as : List (Addr × Addr)) : List V := (as.map fun p => V.ref p.1).reverse
/-- the reader stands here -/
structure OSta (K : PySem.W.Frag) (H0 H : Hp) (lo : Addr) (as : List (Addr × Addr)) (os : List Op) : Prop where
  same : Same H0 H
  hl : H lo = some (.lst (refsO as))
  nl : H0 lo = none
  stk : OStk K H as os
  new : ∀ x ∈ adrs as, H0 x = none ∧ x ≠ lo
  nodup : (adrs as).Nodup
theorem OSta.keep {K : PySem.W.Frag} {H0 H H' : Hp} {lo : Addr} {as : List (Addr × Addr)} {os : List Op} (s : OSta K H0 H lo as os) (e : Same H H') : OSta K H0 H' lo as os :=
  ⟨s.same.trans e, e _ _ s.hl, s.nl, s.stk.keep (TK.same e) fun _ _ _ q => e _ _ q, s.new, s.nodup⟩
/-- one more split is opened -/
theorem OSta.push {K : PySem.W.Frag} {H0 H : Hp} {lo a b : Addr} {as : List (Addr × Addr)} {os : List Op} {o : Op} (s : OSta K H0 H lo as os) (nb : H b = none) (na : upd H b (.lst []) a = none) (ho : o.bs = []) :
    OSta K H0 (upd (upd (upd H b (.lst [])) a (.lst (opV o b))) lo (.lst (refsO as ++ [.ref a]))) lo ((a, b) :: as) (o :: os) := by
  have nab : a ≠ b := fun z => by rw [z, upd_same] at na; cases na
  have na0 : H a = none := by rw [upd_ne nab] at na; exact na
  have nlb : lo ≠ b := ne_of_none s.hl nb
  have nla : lo ≠ a := ne_of_none s.hl na0
  have h2l : upd (upd H b (.lst [])) a (.lst (opV o b)) lo = some (.lst (refsO as)) := by rw [upd_ne nla, upd_ne nlb]; exact s.hl
  have old : ∀ x w, x ≠ lo → H x = some w → upd (upd (upd H b (.lst [])) a (.lst (opV o b))) lo (.lst (refsO as ++ [.ref a])) x = some w := by
    intro x w h1 q
    rw [upd_ne h1, upd_ne (ne_of_none q na0), upd_ne (ne_of_none q nb)]; exact q
  have tk : TK K H (upd (upd (upd H b (.lst [])) a (.lst (opV o b))) lo (.lst (refsO as ++ [.ref a]))) := ((TK.new nb).trans (TK.new na)).trans (TK.lst h2l)
  refine ⟨fun x w q => old x w (ne_of_none q s.nl) (s.same x w q), ?_, s.nl, .cons ⟨?_, [], ?_, by rw [ho]; exact .nil⟩ (s.stk.keep tk fun x hx w q => old x w (s.new x hx).2 q), ?_, ?_⟩
  · rw [upd_same]
    unfold refsO
    rw [List.map_cons, List.reverse_cons]
  · rw [upd_ne nla.symm, upd_same]
  · rw [upd_ne nlb.symm, upd_ne nab.symm, upd_same]
  · intro x hx
    rcases List.mem_cons.mp hx with rfl | hx
    · exact ⟨s.same.free na0, nla.symm⟩
    · rcases List.mem_cons.mp hx with rfl | hx
      · exact ⟨s.same.free nb, nlb.symm⟩
      · exact s.new x hx
  · have hn : ∀ x ∈ adrs as, x ≠ a ∧ x ≠ b := fun x hx => by
      obtain ⟨xs, e⟩ := s.stk.held x hx
      exact ⟨ne_of_none e na0, ne_of_none e nb⟩
    refine List.nodup_cons.mpr ⟨fun q => ?_, List.nodup_cons.mpr ⟨fun q => (hn b q).2 rfl, s.nodup⟩⟩
    rcases List.mem_cons.mp q with q | q
    · exact nab q
    · exact (hn a q).1 rfl
theorem OSta.top {K : PySem.W.Frag} {H0 H : Hp} {lo a b : Addr} {as : List (Addr × Addr)} {os : List Op} {o : Op} (s : OSta K H0 H lo ((a, b) :: as) (o :: os)) : OpAt K H a b o := by
  cases s.stk with
  | cons h _ => exact h
theorem OSta.tail {K : PySem.W.Frag} {H0 H : Hp} {lo a b : Addr} {as : List (Addr × Addr)} {os : List Op} {o : Op} (s : OSta K H0 H lo ((a, b) :: as) (o :: os)) : OStk K H as os := by
  cases s.stk with
  | cons _ h => exact h
/-- a branch more on the split on top -/
theorem OSta.more {K : PySem.W.Frag} {H0 H : Hp} {lo a b : Addr} {as : List (Addr × Addr)} {os : List Op} {o : Op} {vals : List V} {v : V} {t : Tr} (s : OSta K H0 H lo ((a, b) :: as) (o :: os)) (hb : H b = some (.lst vals)) (dA : DtAll K H vals (o.bs.map Tr.pd)) (dv : Dt K H v t.pd) :
    OSta K H0 (upd H b (.lst (vals ++ [v]))) lo ((a, b) :: as) (⟨o.p, o.m, o.bs ++ [t]⟩ :: os) := by
  obtain ⟨ha, _⟩ := s.top
  have nd := s.nodup
  obtain ⟨n1, nd2⟩ := List.nodup_cons.mp nd
  obtain ⟨n2, _⟩ := List.nodup_cons.mp nd2
  have nab : a ≠ b := fun q => n1 (by rw [q]; exact List.mem_cons_self)
  obtain ⟨nb0, nbl⟩ := s.new b (List.mem_cons_of_mem _ List.mem_cons_self)
  have tk : TK K H (upd H b (.lst (vals ++ [v]))) := TK.lst hb
  refine ⟨same_mut s.same nb0, by rw [upd_ne nbl.symm]; exact s.hl, s.nl, .cons ⟨by rw [upd_ne nab]; exact ha, _, upd_same, ?_⟩ (s.tail.keep tk fun x hx w q => by rw [upd_ne (show x ≠ b from fun z => n2 (z ▸ hx))]; exact q), s.new, s.nodup⟩
  show DtAll K _ _ ((o.bs ++ [t]).map Tr.pd)
  rw [List.map_append]
  exact (DtAll.keep tk _ dA).append (.cons (Dt.keep tk _ dv) .nil)
/-- the split on top is taken off -/
theorem OSta.pop {K : PySem.W.Frag} {H0 H : Hp} {lo a b : Addr} {as : List (Addr × Addr)} {os : List Op} {o : Op} (s : OSta K H0 H lo ((a, b) :: as) (o :: os)) : OSta K H0 (upd H lo (.lst (refsO as))) lo as os := by
  have tk : TK K H (upd H lo (.lst (refsO as))) := TK.lst s.hl
  refine ⟨same_mut s.same s.nl, upd_same, s.nl, s.tail.keep tk fun x hx w q => ?_, fun x hx => s.new x (List.mem_cons_of_mem _ (List.mem_cons_of_mem _ hx)), (List.nodup_cons.mp (List.nodup_cons.mp s.nodup).2).2⟩
  rw [upd_ne (s.new x (List.mem_cons_of_mem _ (List.mem_cons_of_mem _ hx))).2]; exact q
theorem refsO_cons (a b : Addr) (as : List (Addr × Addr)) : refsO ((a, b) :: as) = refsO as ++ [.ref a] := by unfold refsO; rw [List.map_cons, List.reverse_cons]
end RS

/-! ReadTr6: read_tree. -/
namespace RS
open PySem PySem.Spec PyProof.Rows L2 TL NdefX

def rdTf : List Str → Nat → Got (Tr × Nat) := fun rs n => rdT rs n []
def spRdT (K : PySem.W.Frag) (CT : Addr) : Sp := fun vs H Q E => rRd false K CT Tr.pd rdTf vs H Q E
theorem rdT_nil {n : Nat} {os : List Op} : rdT [] n os = .error n := by unfold rdT; rfl
theorem rdT_cons {z : Str} {rs : List Str} {n : Nat} {os : List Op} : rdT (z :: rs) n os = match rowOf z os.isEmpty with
    | none => .error n
    | some (.inr o) => rdT rs (n + 1) (o :: os)
    | some (.inl t) => goOn t os rs (n + 1) := by
  conv => lhs; unfold rdT
  rfl
/-- a list of texts is the one of one text -/
theorem eqvAll_strs : ∀ (xs ys : List Str), PyData.eqvAll (xs.map PyData.str) (ys.map PyData.str) = decide (xs = ys)
  | [], [] => rfl
  | [], _ :: _ => rfl
  | _ :: _, [] => rfl
  | x :: xs, y :: ys => by
    show (PyData.eqv (.str x) (.str y) && PyData.eqvAll (xs.map PyData.str) (ys.map PyData.str)) = _
    rw [eqvAll_strs xs ys]
    show ((x == y) && decide (xs = ys)) = _
    rw [Bool.eq_iff_iff]
    simp
theorem dt_strs {K : PySem.W.Frag} {H : Hp} : ∀ xs : List Str, DtAll K H (xs.map V.str) (xs.map PyData.str)
  | [] => .nil
  | x :: xs => .cons (.str x) (dt_strs xs)
theorem strOk_asc {z : Str} (h : asc z) : PyData.strOk z = true := by
  show z.cps.all (· < 0x110000) = true
  rw [← Array.all_toList, List.all_eq_true]
  exact fun d hd => decide_eq_true (h d hd)
theorem shaped_strs (xs : List Str) (h : ∀ p ∈ xs, asc p) : SeqAt.shaped (.list (xs.map PyData.str)) = true := by
  have h1 : ∀ xs : List Str, (∀ p ∈ xs, asc p) → PyData.canLayAll0 (xs.map PyData.str) = true ∧ PyData.depthAll (xs.map PyData.str) ≤ 0 := by
    intro xs
    induction xs with
    | nil => intro _; exact ⟨by simp only [List.map_nil, PyData.canLayAll0], by simp only [List.map_nil, PyData.depthAll]; exact Nat.le_refl _⟩
    | cons x xs ih =>
      intro h
      obtain ⟨i1, i2⟩ := ih fun p hp => h p (List.mem_cons_of_mem _ hp)
      refine ⟨?_, ?_⟩
      · simp only [List.map_cons, PyData.canLayAll0, PyData.canLay0, i1, strOk_asc (h x List.mem_cons_self), Bool.and_self]
      · simp only [List.map_cons, PyData.depthAll, PyData.depth]; omega
  obtain ⟨a, b⟩ := h1 xs h
  unfold SeqAt.shaped
  rw [Bool.and_eq_true, decide_eq_true_eq]
  refine ⟨by simp only [PyData.canLay0]; exact a, ?_⟩
  simp only [PyData.depth]
  omega
theorem eq_strs {K : PySem.W.Frag} {neg : Bool} {a b : Addr} {xs ys : List Str} {H : Hp} {Q : VK} {c : Bool} (h1 : SqL K H a (xs.map V.str)) (h2 : SqL K H b (ys.map V.str)) (x1 : ∀ p ∈ xs, asc p) (x2 : ∀ p ∈ ys, asc p) (hc : xor neg (decide (xs = ys)) = c) (q : Q (.bl c) H) :
    rEqU K neg (.ref a) (.ref b) H Q :=
  eq_d (d := .list (xs.map PyData.str)) (e := .list (ys.map PyData.str)) (.lst h1 (DtAll.dp _ (dt_strs xs))) (.lst h2 (DtAll.dp _ (dt_strs ys))) (shaped_strs xs x1) (shaped_strs ys x2) (by rw [← hc]; congr 1; exact eqvAll_strs xs ys) q
section
variable {P : Program} {w : World} {K : PySem.W.Frag} {mg : Str → Option Value} {base : Heap}
theorem sc_read_tree : FnScope ["rows", "row", "open_here", "words", "found", "place", "many", "branches"] ["rows", "row"] (defScope s_read_tree) := ⟨rfl, rfl, rfl, by decide +kernel, rfl, by decide +kernel, by decide +kernel⟩
theorem ok_read_tree {f CT : Addr} {fd : FuncData} {t1 : Tok} (F : Fun K "read_tree" "read_tree" s_read_tree f fd) (n_len : mg "len" = none) (n_tuple : mg "tuple" = none) (g_MOST_PLACES : mg "MOST_PLACES" = some (.int ci_MOST_PLACES t1))
    (Dneed_row : DfX P w K mg base "need_row" 3 ["right", "row"] (spNR CT)) (Dterm_behind : DfX P w K mg base "term_behind" 7 ["rows", "row", "words_ahead"] (spTB K CT)) (Dread_number : Df P w K mg base "read_number" 1 ["word"] spRN) : FnOk P w K mg base (L2.CX P w) 8 f fd ["rows", "row"] (spRdT K CT) := by
  refine F.okX sc_read_tree (fun vs H Q E h => ?_) (fun cdv A outer s H vs Q E hr h => ?_)
  · obtain ⟨lr, rs, n, j, rfl, _⟩ := h.ex; rfl
  · obtain ⟨lr, rs, n0, j, rfl, hj, hlr, hrs, hn0, _, k⟩ := h.ex
    clear h
    subst hj
    have nd := sc_read_tree.nd
    have hrl := hrs.1
    obtain ⟨R, hR⟩ : ∃ R, R = rdT (rs.drop n0) n0 [] := ⟨_, rfl⟩
    have k : got K CT H Q E Tr.pd (rdT (rs.drop n0) n0 []) := k
    rw [← hR] at k
    have eE : ∀ m, R = .error m → badAt CT E H m := fun m e => by rw [e] at k; exact k
    have eQ : ∀ t m, R = .ok (t, m) → ∀ v H', Same H H' → Dt K H' v (.tuple [t.pd, .int (m : Nat)]) → Q v H' := fun t m e => by rw [e] at k; exact k
    clear k
    refine ⟨_, (pss_cons (ps_set (i := 2) nd rfl (Or.inl rfl) (pe_lstN pa_nil))
      (pss_one (ps_while (passes_of rfl) (pt_val pe_bl)
        (pss_cons (ps_expr (pe_dfX Dneed_row hr (by omega) (passes_call (takes_of rfl rfl rfl rfl) fun _ _ _ _ h => h) (pa_cons (pe_cmpR op_lt (pv 1) (pe_callB uLen (by rfl) n_len (by decide +kernel) (pa_cons (pv 0) pa_nil)) (nomark _)) (pa_cons (pv 1) pa_nil))))
        (pss_cons (ps_set (i := 3) nd rfl (Or.inl rfl) (pe_split (pe_ix ix_seq (pv 0) (pv 1) (fun _ _ => rfl)) pe_str))
        (pss_cons (ps_join (ps_if (pt_cmpR (uEq hr.units) (pe_ix ix_seq (pv 3) pe_int (fun _ _ => rfl)) pe_str (nomark _))
          (pss_cons (ps_expr (pe_dfX Dneed_row hr (by omega) (passes_call (takes_of rfl rfl rfl rfl) fun _ _ _ _ h => h) (pa_cons (pe_cmpR (uEq hr.units) (pe_callB uLen (by rfl) n_len (by decide +kernel) (pa_cons (pv 3) pa_nil)) pe_int (nomark _)) (pa_cons (pv 1) pa_nil))))
          (pss_cons (ps_par (i := 5) (j := 6) rfl nd rfl rfl (by decide) rfl rfl (pa_cons (pe_df Dread_number hr (by omega) (pa_cons (pe_ix ix_seq (pv 3) pe_int (fun _ _ => rfl)) pa_nil)) (pa_cons (pe_df Dread_number hr (by omega) (pa_cons (pe_ix ix_seq (pv 3) pe_int (fun _ _ => rfl)) pa_nil)) pa_nil)) rfl)
          (pss_cons (ps_expr (pe_dfX Dneed_row hr (by omega) (passes_call (takes_of rfl rfl rfl rfl) fun _ _ _ _ h => h) (pa_cons (pe_and (pe_cmpR op_notN (pv 5) pe_non (nomark _)) (pe_and (pe_cmpR op_le (pv 5) (pe_glob (v := .int ci_MOST_PLACES) rfl g_MOST_PLACES ⟨_, rfl⟩) (nomark _)) (pe_and (pe_cmpR op_notN (pv 6) pe_non (nomark _)) (pe_one (pe_cmpR op_le (pv 6) (pe_glob (v := .int ci_MOST_PLACES) rfl g_MOST_PLACES ⟨_, rfl⟩) (nomark _)))))) (pa_cons (pv 1) pa_nil))))
          (pss_cons (ps_expr (pe_bm PySem.F.plainAttrs_list PySem.F.slot_list_append PySem.F.type_list_append mt_append (pv 2) (pa_cons (pe_lstN (pa_cons (pv 5) (pa_cons (pv 6) (pa_cons (pe_lstN pa_nil) pa_nil)))) pa_nil)))
          (pss_cons (ps_par (i := 4) (j := 1) rfl nd rfl rfl (by decide) rfl rfl (pa_cons (pe_tupN (pa_cons pe_str (pa_cons (pv 5) (pa_cons (pe_tupN pa_nil) pa_nil)))) (pa_cons (pe_op uAdd (pv 1) pe_int) pa_nil)) rfl)
          (pss_cons (ps_if (pt_cmpR op_gt (pv 6) pe_int (nomark _))
            (pss_one ps_continue)
            pss_nil)
          (pss_one (ps_expr (pe_bm0 PySem.F.plainAttrs_list PySem.F.slot_list_pop PySem.F.type_list_pop mt_pop (pv 2))))))))))
          (pss_one (ps_if (pt_cmpR (uEq hr.units) (pe_ix ix_seq (pv 3) pe_int (fun _ _ => rfl)) pe_str (nomark _))
            (pss_one (ps_par (i := 4) (j := 1) rfl nd rfl rfl (by decide) rfl rfl (pa_cons (pe_tupN (pa_cons pe_str (pa_cons (pe_dfX Dterm_behind hr (by omega) (passes_call (takes_of rfl rfl rfl rfl) fun _ _ _ _ h => h) (pa_cons (pv 0) (pa_cons (pv 1) (pa_cons pe_int pa_nil)))) pa_nil))) (pa_cons (pe_op uAdd (pv 1) pe_int) pa_nil)) rfl))
            (pss_cons (ps_expr (pe_dfX Dneed_row hr (by omega) (passes_call (takes_of rfl rfl rfl rfl) fun _ _ _ _ h => h) (pa_cons (pe_and (pe_cmpR (uEq hr.units) (pv 3) (pe_lstN (pa_cons pe_str pa_nil)) (nomark _)) (pe_one (pe_cmpR (uNe hr.units) (pv 2) (pe_lstN pa_nil) (nomark _)))) (pa_cons (pv 1) pa_nil))))
            (pss_one (ps_par (i := 4) (j := 1) rfl nd rfl rfl (by decide) rfl rfl (pa_cons pe_non (pa_cons (pe_op uAdd (pv 1) pe_int) pa_nil)) rfl)))))))
        (pss_cons (ps_while (passes_of rfl) (pt_cmpR (uNe hr.units) (pv 2) (pe_lstN pa_nil) (nomark _))
          (pss_cons (ps_expr (pe_bm PySem.F.plainAttrs_list PySem.F.slot_list_append PySem.F.type_list_append mt_append (pe_ix ix_seq (pe_ix ix_seq (pv 2) (pe_un un_neg pe_int) (fun _ _ => rfl)) pe_int (fun _ _ => rfl)) (pa_cons (pv 4) pa_nil)))
          (pss_cons (ps_if (pt_cmpR op_lt (pe_callB uLen (by rfl) n_len (by decide +kernel) (pa_cons (pe_ix ix_seq (pe_ix ix_seq (pv 2) (pe_un un_neg pe_int) (fun _ _ => rfl)) pe_int (fun _ _ => rfl)) pa_nil)) (pe_ix ix_seq (pe_ix ix_seq (pv 2) (pe_un un_neg pe_int) (fun _ _ => rfl)) pe_int (fun _ _ => rfl)) (nomark _))
            (pss_one ps_break)
            pss_nil)
          (pss_cons (ps_asg (pe_bm0 PySem.F.plainAttrs_list PySem.F.slot_list_pop PySem.F.type_list_pop mt_pop (pv 2)) (pg_unl rfl (pgs_cons (pg_name (i := 5) nd rfl (Or.inl rfl)) (pgs_cons (pg_name (i := 6) nd rfl (Or.inl rfl)) (pgs_cons (pg_name (i := 7) nd rfl (Or.inl rfl)) pgs_nil)))))
          (pss_one (ps_set (i := 4) nd rfl (Or.inl rfl) (pe_tupN (pa_cons pe_str (pa_cons (pv 5) (pa_cons (pe_callTy call_tuple_of (by rfl) n_tuple (by decide +kernel) (pa_cons (pv 7) pa_nil)) pa_nil))))))))))
        (pss_one (ps_if (pt_cmpR (uEq hr.units) (pv 2) (pe_lstN pa_nil) (nomark _))
          (pss_one (ps_ret (pe_tupN (pa_cons (pv 4) (pa_cons (pv 1) pa_nil)))))
          pss_nil))))))))), ?_⟩
    refine lst_new (Nat.zero_le _) fun lo nlo => ?_
    have S0 : OSta K H (upd H lo (.lst [])) lo [] [] := ⟨same_new nlo, upd_same, nlo, .nil, (fun _ h => by cases h), List.nodup_nil⟩
    generalize upd H lo (.lst []) = H1 at S0 ⊢
    refine ⟨fun m σ H2 => ∃ (n : Nat) (as : List (Addr × Addr)) (os : List Op) (x3 x4 x5 x6 x7 : Option V), σ = [some (.ref lr), some (.int n), some (.ref lo), x3, x4, x5, x6, x7] ∧ OSta K H H2 lo as os ∧ n ≤ rs.length ∧ tot os ≤ n ∧ rdT (rs.drop n) n os = R ∧ m = rs.length - n,
      ⟨_, n0, [], [], none, none, none, none, none, rfl, S0, hn0, Nat.zero_le _, hR.symm, rfl⟩, ?_⟩
    rintro m σ H2 ⟨n, as, os, x3, x4, x5, x6, x7, rfl, S, hnl, htot, hrun, rfl⟩
    refine ⟨_, rfl, iteT ⟨_, fun _ _ h => h, ?_⟩⟩
    have hlr2 := S.same _ _ hlr
    have bad2 : ∀ {H' : Hp} {m : Nat}, R = .error m → Same H2 H' → badAt CT E H' m := fun e q => (eE _ e).same (S.same.trans q)
    refine ⟨_, rfl, _, rfl, _, rs.length, rfl, lenW hlr2, _, _, rfl, rfl, ⟨_, rfl, ⟨⟨_, _, rfl, fun hb => ?_, fun hb => ?_⟩⟩⟩⟩
    rotate_left
    · have hlt : ¬ n < rs.length := by have := of_decide_eq_false hb; omega
      rw [List.drop_of_length_le (by omega), rdT_nil] at hrun
      exact bad2 hrun.symm (Same.refl _)
    have hlt : n < rs.length := by have := of_decide_eq_true hb; omega
    obtain ⟨z, hz⟩ : ∃ z, rs[n]? = some z := ⟨_, List.getElem?_eq_getElem hlt⟩
    have hzm : okR z := hrs.2 z (List.mem_of_getElem? hz)
    have hzl := okR_len hzm
    have hwl := ws_len hzm
    rw [drop_row hz, rdT_cons] at hrun
    refine ⟨_, rfl, _, rfl, ix_row hlr2 rfl hz ⟨⟨_, rfl⟩, z, " ", rfl, rfl, by decide +kernel, by rw [sizeLine_eq]; omega, fun lw nw => ?_⟩⟩
    have e3 : Same H2 (upd H2 lw (.lst ((wsOf z).map V.str))) := same_new nw
    have hw3 : upd H2 lw (.lst ((wsOf z).map V.str)) lw = some (.lst ((wsOf z).map V.str)) := upd_same
    have S3 := S.keep e3
    generalize upd H2 lw (.lst ((wsOf z).map V.str)) = H3 at e3 hw3 S3 ⊢
    have hw0 : 0 < (wsOf z).length := List.length_pos_iff.mpr (ws_ne z)
    have hemp : os.isEmpty = as.isEmpty := by have := S.stk.len; cases os <;> cases as <;> first | rfl | simp at this
    -- what holds behind the three ways
    refine ⟨fun σ H4 => ∃ (t : Tr) (v : V) (as : List (Addr × Addr)) (os : List Op) (x5 x6 x7 : Option V), σ = [some (.ref lr), some (.int ((n + 1 : Nat) : Int)), some (.ref lo), some (.ref lw), some v, x5, x6, x7] ∧ OSta K H H4 lo as os ∧ Dt K H4 v t.pd ∧ tot os ≤ n ∧ goOn t os (rs.drop (n + 1)) (n + 1) = R, ?_, ?_⟩
    · have hasc : ∀ p ∈ wsOf z, asc p := fun p hp => (hzm.2 p hp).2
      refine ⟨_, rfl, ixw (i := 0) hw3 hw0 (eq_str (b := decide ((wsOf z).getD 0 "" = "split")) (Bool.false_xor _) ⟨_, rfl, ite2 (fun h0 => ?_) (fun h0 => ?_)⟩)⟩
      · -- a split
        have h0 := of_decide_eq_true h0
        have bad3 : rowOf z os.isEmpty = none → ∀ {H'}, Same H3 H' → badAt CT E H' n := fun q {H'} e => bad2 (by rw [← hrun, q]) (e3.trans e)
        have hro : rowOf z os.isEmpty = if (wsOf z).length = 3 then (match readNum ((wsOf z).getD 1 ""), readNum ((wsOf z).getD 2 "") with
            | some p, some m => if p ≤ 1000000 ∧ m ≤ 1000000 then some (if 0 < m then (Sum.inr (Op.mk p m []) : Tr ⊕ Op) else Sum.inl (Tr.split p [])) else none
            | _, _ => none) else none := by
          unfold rowOf; rw [if_pos h0] <;> rfl
        refine ⟨_, rfl, _, (wsOf z).length, rfl, .inl ⟨_, SqL.of hw3, by simp⟩, eq_f (b := decide ((wsOf z).length = 3)) rfl (by rw [Bool.false_xor]; exact dec_len rfl rfl) ⟨_, rfl, ⟨⟨_, _, rfl, fun h3 => ?_, fun h3 => ?_⟩⟩⟩⟩
        rotate_left
        · exact bad3 (by rw [hro, if_neg (of_decide_eq_false h3)]) (Same.refl _)
        have h3 := of_decide_eq_true h3
        rw [if_pos h3] at hro
        refine ⟨_, rfl, ixw (i := 1) hw3 (by omega) ⟨⟨_, rfl, hwl 1, fun H4 e4 => ?_⟩⟩⟩
        have hw4 := e4 _ _ hw3
        refine ⟨_, rfl, ixw (i := 2) hw4 (by omega) ⟨⟨_, rfl, hwl 2, fun H5 e5 => ?_⟩⟩⟩
        replace e5 := e4.trans e5
        have S5 := S3.keep e5
        unfold numV
        cases hp : readNum ((wsOf z).getD 1 "") with
        | none =>
          rw [hp] at hro
          exact ⟨_, _, rfl, _, rfl, rfl, _, rfl, iteF ⟨_, rfl, nr_bad rfl (bad3 hro e5)⟩⟩
        | some p =>
        have badm : (¬ p ≤ 1000000 → rowOf z os.isEmpty = none) := fun q => by
          rw [hro, hp]
          cases readNum ((wsOf z).getD 2 "") with
          | none => rfl
          | some m => dsimp only; rw [if_neg (fun z => q z.1)]
        refine ⟨_, _, rfl, _, rfl, rfl, _, rfl, iteT ⟨_, rfl, _, _, rfl, rfl, _, rfl, ite2 (fun h6 => ?_) (fun h6 => ?_)⟩⟩
        rotate_left
        · have h6 : ¬ p ≤ 1000000 := fun q => h6 (decide_eq_true (by show (p : Int) ≤ 1000000; omega))
          exact ⟨_, rfl, nr_bad rfl (bad3 (badm h6) e5)⟩
        have h6 : p ≤ 1000000 := by
          have q : (p : Int) ≤ 1000000 := of_decide_eq_true h6
          omega
        cases hm : readNum ((wsOf z).getD 2 "") with
        | none =>
          rw [hp, hm] at hro
          exact ⟨_, rfl, rfl, _, rfl, iteF ⟨_, rfl, nr_bad rfl (bad3 hro e5)⟩⟩
        | some m =>
        rw [hp, hm] at hro
        dsimp only at hro
        refine ⟨_, rfl, rfl, _, rfl, iteT ⟨_, rfl, _, _, rfl, rfl, ⟨_, rfl, ⟨⟨_, _, rfl, fun h7 => ?_, fun h7 => ?_⟩⟩⟩⟩⟩
        rotate_left
        · have h7 : ¬ m ≤ 1000000 := fun q => by
            have h7 := of_decide_eq_false h7
            exact h7 (by show (m : Int) ≤ 1000000; omega)
          exact bad3 (by rw [hro, if_neg (fun z => h7 z.2)]) e5
        have h7 : m ≤ 1000000 := by
          have q : (m : Int) ≤ 1000000 := of_decide_eq_true h7
          omega
        rw [if_pos ⟨h6, h7⟩] at hro
        clear bad3 badm
        have hl5 := S5.hl
        refine ⟨_, rfl, .inl ⟨rfl, _, SqL.of hl5⟩, _, rfl, _, rfl, lst_new (Nat.zero_le _) fun b nb => lst_new (xs := opV ⟨p, m, []⟩ b) (by show 3 ≤ 1000; decide) fun a na => ?_⟩
        have nlb : lo ≠ b := ne_of_none hl5 nb
        have hl6 : upd H5 b (.lst []) lo = some (.lst (refsO as)) := (upd_ne nlb).trans hl5
        have nla : lo ≠ a := ne_of_none hl6 na
        have hl7 : upd (upd H5 b (.lst [])) a (.lst (opV ⟨p, m, []⟩ b)) lo = some (.lst (refsO as)) := (upd_ne nla).trans hl6
        have las : as.length ≤ 1000 := by have := S5.stk.len; have := len_tot os; omega
        refine ⟨lo, _, .ref a, rfl, rfl, hl7, lt_line (by unfold refsO; rw [List.length_reverse, List.length_map]; exact las), ?_⟩
        have S7 := S5.push (o := ⟨p, m, []⟩) nb na rfl
        generalize upd (upd (upd H5 b (.lst [])) a (.lst (opV ⟨p, m, []⟩ b))) lo (.lst (refsO as ++ [.ref a])) = H7 at S7 ⊢
        clear hl5 hl6 hl7 nb na nlb nla
        refine ⟨_, rfl, tup_new (K := K) (ds := []) .nil (Nat.zero_le _) fun v0 H8 e8 d0 => tup_new (K := K) (ds := [.str "split", .int (p : Nat), .tuple []]) (.cons (.str _) (.cons (.int _) (.cons d0 .nil))) (by show 3 ≤ 1000; decide) fun v1 H9 e9 d1 => ⟨_, rfl, add_i ⟨_, _, rfl, ?_⟩⟩⟩
        have S9 := S7.keep (e8.trans e9)
        clear S7 e8 d0
        refine ⟨_, rfl, _, _, rfl, rfl, _, rfl, ite2 (fun hm0 => ?_) (fun hm0 => ?_)⟩
        · have hm0 : 0 < m := by have := of_decide_eq_true hm0; omega
          rw [if_pos hm0] at hro
          rw [hro] at hrun
          dsimp only at hrun
          exact ⟨rs.length - (n + 1), by omega, n + 1, _, _, _, _, _, _, _, rfl, S9, by omega, by simp only [tot, List.length_nil]; omega, hrun, rfl⟩
        · have hm0 : ¬ 0 < m := fun q => hm0 (decide_eq_true (by show (0 : Int) < (m : Int); omega))
          rw [if_neg hm0] at hro
          rw [hro] at hrun
          dsimp only at hrun
          have hl9 := S9.hl
          refine ⟨_, rfl, .inl ⟨rfl, _, SqL.of hl9⟩, lo, _, .ref a, rfl, rfl, hl9, by rw [refsO_cons]; simp, ?_⟩
          have edl : (refsO ((a, b) :: as)).dropLast = refsO as := by rw [refsO_cons]; exact List.dropLast_concat
          rw [edl]
          have d2 := Dt.keep (TK.lst (o := .lst (refsO as)) hl9) _ d1
          have d3 : Dt K (upd H9 lo (.lst (refsO as))) v1 (Tr.split p []).pd := by unfold Tr.pd pdL; exact d2
          exact ⟨.split p [], v1, as, os, _, _, _, rfl, S9.pop, d3, htot, hrun⟩
      · have h0 : ¬ (wsOf z).getD 0 "" = "split" := fun q => h0 (decide_eq_true q)
        refine ⟨_, rfl, ixw (i := 0) hw3 hw0 (eq_str (b := decide ((wsOf z).getD 0 "" = "leaf")) (Bool.false_xor _) ⟨_, rfl, ite2 (fun h1 => ?_) (fun h1 => ?_)⟩)⟩
        · -- a leaf
          have h1 := of_decide_eq_true h1
          have hro : rowOf z os.isEmpty = match tbz z 1 with
              | some t => some (.inl (.leaf t))
              | none => none := by
            unfold rowOf; rw [if_neg h0, if_pos h1] <;> rfl
          refine ⟨_, rfl, _, rfl, ⟨⟨lr, rs, n, 1, _, rfl, rfl, S3.same _ _ hlr, hrs, fun t ⟨z', hz', ht⟩ v H4 e4 dv => ?_, fun hno => ?_⟩⟩⟩
          rotate_left
          · rw [hno z hz] at hro
            exact bad2 (by rw [← hrun, hro]) e3
          rw [hz] at hz'
          cases hz'
          rw [ht] at hro
          rw [hro] at hrun
          dsimp only at hrun
          refine tup_new (K := K) (ds := [.str "leaf", t.pd]) (.cons (.str _) (.cons dv .nil)) (by show 2 ≤ 1000; decide) fun v' H5 e5 dv' => ?_
          refine ⟨_, rfl, add_i ⟨_, _, rfl, ?_⟩⟩
          have dv'' : Dt K H5 v' (Tr.leaf t).pd := by unfold Tr.pd; exact dv'
          exact ⟨.leaf t, v', as, os, _, _, _, rfl, S3.keep (e4.trans e5), dv'', htot, hrun⟩
        · have h1 : ¬ (wsOf z).getD 0 "" = "leaf" := fun q => h1 (decide_eq_true q)
          have hro : rowOf z os.isEmpty = if wsOf z = (["barred"] : List Str) ∧ os.isEmpty = false then some (.inl .barred) else none := by
            unfold rowOf; rw [if_neg h0, if_neg h1]
          refine ⟨_, rfl, lst_new (xs := [.str "barred"]) (Nat.le_add_left 1 999) fun q nq => eq_strs (xs := wsOf z) (ys := ["barred"]) (SqL.of ((upd_ne (ne_of_none hw3 nq)).trans hw3)) (SqL.of upd_same) hasc (fun p hp => by rw [List.mem_singleton.mp hp]; exact asc_by (by decide +kernel)) (c := decide (wsOf z = (["barred"] : List Str))) (Bool.false_xor _) ⟨_, rfl, ?_⟩⟩
          have e4 : Same H3 (upd H3 q (.lst [.str "barred"])) := same_new nq
          have S4 := S3.keep e4
          generalize upd H3 q (.lst [.str "barred"]) = H4 at e4 S4 ⊢
          refine ite2 (fun h5 => ?_) (fun h5 => ?_)
          rotate_left
          · have h5 : ¬ wsOf z = (["barred"] : List Str) := fun q => h5 (decide_eq_true q)
            exact ⟨_, rfl, nr_bad rfl (bad2 (by rw [← hrun, hro, if_neg (fun z => h5 z.1)]) (e3.trans e4))⟩
          have h5 := of_decide_eq_true h5
          refine ⟨_, rfl, lst_new (Nat.zero_le _) fun q nq => eq_n (SqL.of ((upd_ne (ne_of_none S4.hl nq)).trans S4.hl)) (SqL.of upd_same) (b := !as.isEmpty) (by rw [Bool.true_xor]; cases as <;> simp [refsO]) ⟨_, rfl, ?_⟩⟩
          have e5 : Same H4 (upd H4 q (.lst [])) := same_new nq
          have S5 := S4.keep e5
          generalize upd H4 q (.lst []) = H5 at e5 S5 ⊢
          replace e5 := e4.trans e5
          cases hae : as.isEmpty with
          | true =>
            rw [hemp, hae] at hro hrun
            exact nr_bad rfl (bad2 (by rw [← hrun, hro, if_neg (fun z => by cases z.2)]) (e3.trans e5))
          | false =>
          rw [hemp, hae] at hro hrun
          rw [if_pos ⟨h5, rfl⟩] at hro
          rw [hro] at hrun
          dsimp only at hrun
          refine nr_ok ?_
          refine ⟨_, rfl, add_i ⟨_, _, rfl, ?_⟩⟩
          exact ⟨.barred, .non, as, os, _, _, _, rfl, S5, by unfold Tr.pd; exact .non, htot, hrun⟩
    · rintro σ H4 ⟨t, v, as, os, x5, x6, x7, rfl, S4, dv, htot, hgo⟩
      refine ⟨fun m2 σ H5 => ∃ (t : Tr) (v : V) (as : List (Addr × Addr)) (os : List Op) (x5 x6 x7 : Option V), σ = [some (.ref lr), some (.int ((n + 1 : Nat) : Int)), some (.ref lo), some (.ref lw), some v, x5, x6, x7] ∧ OSta K H H5 lo as os ∧ Dt K H5 v t.pd ∧ tot os ≤ n ∧ goOn t os (rs.drop (n + 1)) (n + 1) = R ∧ m2 = os.length,
        ⟨_, t, v, as, os, _, _, _, rfl, S4, dv, htot, hgo, rfl⟩, ?_⟩
      clear S4 dv hgo htot
      rintro m2 σ H5 ⟨t, v, as, os, x5', x6', x7', rfl, S5, dv, htot, hgo, rfl⟩
      have hlt' : n < rs.length := by obtain ⟨q, _⟩ := List.getElem?_eq_some_iff.mp hz; exact q
      refine ⟨_, rfl, lst_new (Nat.zero_le _) fun q nq => eq_n (SqL.of ((upd_ne (ne_of_none S5.hl nq)).trans S5.hl)) (SqL.of upd_same) (b := !as.isEmpty) (by rw [Bool.true_xor]; cases as <;> simp [refsO]) ⟨_, rfl, ?_⟩⟩
      replace dv := dv.same (same_new (o := .lst []) nq)
      replace S5 := S5.keep (same_new (o := .lst []) nq)
      generalize upd H5 q (.lst []) = H6 at S5 dv ⊢
      clear nq
      have hst := S5.stk
      cases hst with
      | nil =>
        rw [goOn_nil] at hgo
        refine iteF ?_
        refine ⟨_, rfl, lst_new (Nat.zero_le _) fun q nq => eq_n (SqL.of ((upd_ne (ne_of_none S5.hl nq)).trans S5.hl)) (SqL.of upd_same) (b := true) rfl ⟨_, rfl, iteT ?_⟩⟩
        exact ⟨_, rfl, _, rfl, tup_new (K := K) (ds := [t.pd, .int ((n + 1 : Nat) : Int)]) (.cons (dv.same (same_new nq)) (.cons (.int _) .nil)) (by show 2 ≤ 1000; decide) fun v' H7 e7 dv' => eQ t (n + 1) hgo.symm v' H7 ((S5.same.trans (same_new nq)).trans e7) dv'⟩
      | @cons a b as o os hda hst =>
        refine iteT ⟨_, fun _ _ h => h, ?_⟩
        obtain ⟨ha, vals, hb, dA⟩ := hda
        obtain ⟨na0, nal⟩ := S5.new a List.mem_cons_self
        obtain ⟨nb0, nbl⟩ := S5.new b (List.mem_cons_of_mem _ List.mem_cons_self)
        have nab : a ≠ b := fun q => (List.nodup_cons.mp S5.nodup).1 (by rw [q]; exact List.mem_cons_self)
        have lv : vals.length = o.bs.length := by have := dA.length; rw [List.length_map] at this; exact this
        have hlast : ∀ as : List (Addr × Addr), atI (refsO ((a, b) :: as)) (-1) = some (.ref a) := fun as => by rw [refsO_cons]; exact atI_last _ _
        simp only [tot] at htot
        refine ⟨_, rfl, _, rfl, .inl ⟨lo, _, _, _, rfl, rfl, SqL.of S5.hl, hlast as, ixl (i := 2) (SqL.of ha) rfl ?_⟩⟩
        refine ⟨.inl ⟨rfl, _, SqL.of hb⟩, _, rfl, b, _, _, rfl, rfl, hb, lt_line (by omega), ?_⟩
        have S6 := S5.more hb dA dv
        have ha6 : upd H6 b (.lst (vals ++ [v])) a = some (.lst (opV o b)) := (upd_ne nab).trans ha
        have hb6 : upd H6 b (.lst (vals ++ [v])) b = some (.lst (vals ++ [v])) := upd_same
        have dA6 : DtAll K (upd H6 b (.lst (vals ++ [v]))) (vals ++ [v]) ((o.bs ++ [t]).map Tr.pd) := by
          obtain ⟨_, vs', h1, h2⟩ := S6.top
          rw [hb6] at h1
          cases h1
          exact h2
        generalize upd H6 b (.lst (vals ++ [v])) = H7 at S6 ha6 hb6 dA6 ⊢
        refine ⟨_, rfl, _, rfl, .inl ⟨lo, _, _, _, rfl, rfl, SqL.of S6.hl, hlast as, ixl (i := 2) (SqL.of ha6) rfl ⟨_, (vals ++ [v]).length, rfl, .inl ⟨_, SqL.of hb6, rfl⟩, _, rfl, _, rfl, .inl ⟨lo, _, _, _, rfl, rfl, SqL.of S6.hl, hlast as, ixl (i := 1) (SqL.of ha6) rfl ⟨_, _, rfl, rfl, _, rfl, ?_⟩⟩⟩⟩⟩
        have hlen : ((((vals ++ [v]).length : Nat) : Int) < ((o.m : Nat) : Int)) ↔ o.bs.length + 1 < o.m := by
          rw [List.length_append, lv]
          simp only [List.length_cons, List.length_nil]
          omega
        refine ite2 (fun hc => ?_) (fun hc => ?_)
        · have hk := hlen.mp (of_decide_eq_true hc)
          rw [goOn_more hk] at hgo
          refine ⟨_, rfl, lst_new (Nat.zero_le _) fun q nq => eq_n (SqL.of ((upd_ne (ne_of_none S6.hl nq)).trans S6.hl)) (SqL.of upd_same) (b := false) (by rw [Bool.false_xor, refsO_cons]; simp) ⟨_, rfl, iteF ?_⟩⟩
          exact ⟨rs.length - (n + 1), by omega, n + 1, _, _, _, _, _, _, _, rfl, S6.keep (same_new nq), by omega, by simp only [tot, List.length_append, List.length_cons, List.length_nil]; omega, hgo, rfl⟩
        · have hk : ¬ o.bs.length + 1 < o.m := fun z => hc (decide_eq_true (hlen.mpr z))
          rw [goOn_end hk] at hgo
          have edl : (refsO ((a, b) :: as)).dropLast = refsO as := by rw [refsO_cons]; exact List.dropLast_concat
          refine ⟨_, rfl, .inl ⟨rfl, _, SqL.of S6.hl⟩, lo, _, .ref a, rfl, rfl, S6.hl, by rw [refsO_cons]; simp, ?_⟩
          rw [edl]
          have S7 := S6.pop
          have tk7 : TK K H7 (upd H7 lo (.lst (refsO as))) := TK.lst S6.hl
          have ha7 : upd H7 lo (.lst (refsO as)) a = some (.lst (opV o b)) := (upd_ne nal).trans ha6
          have hb7 : upd H7 lo (.lst (refsO as)) b = some (.lst (vals ++ [v])) := (upd_ne nbl).trans hb6
          have dA7 := DtAll.keep tk7 _ dA6
          generalize upd H7 lo (.lst (refsO as)) = H8 at S7 ha7 hb7 dA7 ⊢
          refine ⟨a, opV o b, rfl, SqL.of ha7, rfl, _, _, rfl, _, _, rfl, _, _, rfl, rfl, ?_⟩
          refine ⟨_, rfl, _, rfl, b, vals ++ [v], rfl, .inl ⟨SqL.of hb7, fun T nT => ?_⟩⟩
          have e9 : Same H8 (upd H8 T (.tup (vals ++ [v]))) := same_new nT
          have dT : Dt K (upd H8 T (.tup (vals ++ [v]))) (.ref T) (.tuple (pdL (o.bs ++ [t]))) := by
            rw [pdL_map]; exact .tup (SqT.of upd_same) (DtAll.keep (TK.same e9) _ dA7)
          have S9 := S7.keep e9
          generalize upd H8 T (.tup (vals ++ [v])) = H9 at S9 dT ⊢
          refine tup_new (K := K) (ds := [.str "split", .int (o.p : Nat), .tuple (pdL (o.bs ++ [t]))]) (.cons (.str _) (.cons (.int _) (.cons dT .nil))) (by show 3 ≤ 1000; decide) fun v' H10 e10 dv' => ?_
          have dv'' : Dt K H10 v' (Tr.split o.p (o.bs ++ [t])).pd := by unfold Tr.pd; exact dv'
          exact ⟨os.length, Nat.lt_succ_self _, .split o.p (o.bs ++ [t]), v', as, os, _, _, _, rfl, S9.keep e10, dv'', by omega, hgo, rfl⟩
end
end RS

/-! ReadF6: read_function. -/
namespace RS
open PySem PySem.Spec PyProof.Rows L2 TL NdefX

def rdFf : List Str → Nat → Got (Dcl × Nat) := fun rs n => match rs with
  | [] => .error n
  | z :: r => rdF z r n
def spRdF (K : PySem.W.Frag) (CT : Addr) : Sp := fun vs H Q E => rRd true K CT Dcl.pd rdFf vs H Q E
def atV : Option Nat → V
  | none => .non
  | some a => .int (a : Nat)
theorem atV_dt {K : PySem.W.Frag} {H : Hp} (a : Option Nat) : Dt K H (atV a) (atD a) := by
  cases a with
  | none => exact .non
  | some a => exact .int _
theorem at_none {w : Str} {many : Nat} (h : w = "none") : atOf w many = some none := by unfold atOf; rw [if_pos h]
/-- what at holds -/
def atW (w : Str) : V := if w = "none" then .non else numV w
theorem atW_at {w : Str} {many : Nat} {a : Option Nat} (h : atOf w many = some a) : atW w = atV a := by
  unfold atOf at h
  unfold atW numV
  by_cases hw : w = "none"
  · rw [if_pos hw] at h ⊢
    cases h; rfl
  · rw [if_neg hw] at h ⊢
    cases e : readNum w with
    | none => rw [e] at h; cases h
    | some b =>
      rw [e] at h
      dsimp only at h
      split at h
      · cases h; rfl
      · cases h
theorem if_none {K : PySem.W.Frag} {σ : L2.St} {lw : Addr} {ws : List Str} {H : Hp} {Q : VK} (hw : H lw = some (.lst (ws.map V.str))) (h3 : 3 < ws.length) (hl : (ws.getD 3 "").length ≤ 100000) (hσ : σ[2]? = some (some (.ref lw))) (k : ∀ H', Same H H' → Q (atW (ws.getD 3 "")) H') :
    tIf (tTest (tOp (rEqU K false) (tOp (rIx K) (tVar 2) (tC (.int 3))) (tC (.str "none")))) (tC .non) (tDf spRN (tCons (tOp (rIx K) (tVar 2) (tC (.int 3))) tNil)) σ H Q := by
  refine ⟨_, hσ, ixw (i := 3) hw h3 (eq_str (Bool.false_xor _) ⟨_, rfl, ite2 (fun h => ?_) (fun h => ?_)⟩)⟩
  · have e : atW (ws.getD 3 "") = .non := by unfold atW; rw [if_pos (of_decide_eq_true h)]
    rw [e] at k
    exact k _ (Same.refl _)
  · have e : atW (ws.getD 3 "") = numV (ws.getD 3 "") := by unfold atW; rw [if_neg (fun q => h (decide_eq_true q))]
    rw [e] at k
    exact ⟨_, hσ, ixw (i := 3) hw h3 ⟨⟨_, rfl, hl, k⟩⟩⟩
theorem or_at {K : PySem.W.Frag} {σ : L2.St} {lw : Addr} {ws : List Str} {many : Nat} {H : Hp} {Q : VK} (hw : H lw = some (.lst (ws.map V.str))) (h3 : 3 < ws.length) (hσ : σ[2]? = some (some (.ref lw))) (h5 : σ[5]? = some (some (atW (ws.getD 3 "")))) (h4 : σ[4]? = some (some (.int (many : Nat))))
    (k : Q (.bl (atOf (ws.getD 3 "") many).isSome) H) :
    tOrV (tOp (rEqU K false) (tOp (rIx K) (tVar 2) (tC (.int 3))) (tC (.str "none"))) (tAndV (tOp (fun x y H Q => y = .non ∧ Q (.bl (!decide (x = .non))) H) (tVar 5) (tC .non)) (tOp (rI0 fun i j => .bl (decide (i < j))) (tVar 5) (tVar 4))) σ H Q := by
  refine ⟨_, hσ, ixw (i := 3) hw h3 (eq_str (Bool.false_xor _) ⟨_, rfl, ite2 (fun h => ?_) (fun h => ?_)⟩)⟩
  · rw [at_none (of_decide_eq_true h)] at k
    exact k
  · have hn : ¬ ws.getD 3 "" = "none" := fun q => h (decide_eq_true q)
    unfold atW at h5
    rw [if_neg hn] at h5
    unfold atOf at k
    rw [if_neg hn] at k
    unfold numV at h5
    refine ⟨_, h5, rfl, ?_⟩
    cases e : readNum (ws.getD 3 "") with
    | none =>
      rw [e] at k
      exact ⟨_, rfl, iteF k⟩
    | some a =>
      rw [e] at k h5
      dsimp only at k
      refine ⟨_, rfl, iteT ⟨_, h5, _, h4, _, _, rfl, rfl, ?_⟩⟩
      have e2 : (if a < many then some (some a) else none).isSome = decide ((a : Int) < (many : Int)) := by
        by_cases q : a < many
        · rw [if_pos q, decide_eq_true (by omega)]; rfl
        · rw [if_neg q, decide_eq_false (by omega)]; rfl
      rw [e2] at k
      exact k
section
variable {P : Program} {w : World} {K : PySem.W.Frag} {mg : Str → Option Value} {base : Heap}
theorem sc_read_function : FnScope ["rows", "row", "words", "type_here", "many", "at", "tree", "behind"] ["rows", "row"] (defScope s_read_function) := ⟨rfl, rfl, rfl, by decide +kernel, rfl, by decide +kernel, by decide +kernel⟩
theorem ok_read_function {f CT : Addr} {fd : FuncData} {t1 : Tok} (F : Fun K "read_function" "read_function" s_read_function f fd) (n_len : mg "len" = none) (g_MOST_ARGUMENTS : mg "MOST_ARGUMENTS" = some (.int ci_MOST_ARGUMENTS t1))
    (Dneed_row : DfX P w K mg base "need_row" 3 ["right", "row"] (spNR CT)) (Dterm_behind : DfX P w K mg base "term_behind" 7 ["rows", "row", "words_ahead"] (spTB K CT)) (Dread_tree : DfX P w K mg base "read_tree" 8 ["rows", "row"] (spRdT K CT))
    (Dis_small : Df P w K mg base "is_small" 2 ["value"] spSm) (Dis_closed : Df P w K mg base "is_closed" 2 ["term"] (spClo K)) (Dread_number : Df P w K mg base "read_number" 1 ["word"] spRN) : FnOk P w K mg base (L2.CX P w) 9 f fd ["rows", "row"] (spRdF K CT) := by
  refine F.okX sc_read_function (fun vs H Q E h => ?_) (fun cdv A outer s H vs Q E hr h => ?_)
  · obtain ⟨lr, rs, n, j, rfl, _⟩ := h.ex; rfl
  · obtain ⟨lr, rs, n, j, rfl, hj, hlr, hrs, _, hlt, k⟩ := h.ex
    clear h
    have hlt := hlt rfl
    have nd := sc_read_function.nd
    obtain ⟨z, hz⟩ : ∃ z, rs[n]? = some z := ⟨_, List.getElem?_eq_getElem hlt⟩
    have hzm : okR z := hrs.2 z (List.mem_of_getElem? hz)
    have hzl := okR_len hzm
    have hwl := ws_len hzm
    have hrl := hrs.1
    rw [drop_row hz] at k
    have k : got K CT H Q E Dcl.pd (rdF z (rs.drop (n + 1)) n) := k
    refine ⟨_, (pss_cons (ps_set (i := 2) nd rfl (Or.inl rfl) (pe_split (pe_ix ix_seq (pv 0) (pv 1) (fun _ _ => rfl)) pe_str))
      (pss_cons (ps_expr (pe_dfX Dneed_row hr (by omega) (passes_call (takes_of rfl rfl rfl rfl) fun _ _ _ _ h => h) (pa_cons (pe_and (pe_cmpR (uEq hr.units) (pe_callB uLen (by rfl) n_len (by decide +kernel) (pa_cons (pv 2) pa_nil)) pe_int (nomark _)) (pe_and (pe_cmpR (uEq hr.units) (pe_ix ix_seq (pv 2) pe_int (fun _ _ => rfl)) pe_str (nomark _)) (pe_and (pe_df Dis_small hr (by omega) (pa_cons (pe_ix ix_seq (pv 2) pe_int (fun _ _ => rfl)) pa_nil)) (pe_one (pe_cmpR uIn (pe_ix ix_seq (pv 2) pe_int (fun _ _ => rfl)) (pe_tupN (pa_cons pe_str (pa_cons pe_str pa_nil))) (by rfl)))))) (pa_cons (pv 1) pa_nil))))
      (pss_cons (ps_par (i := 4) (j := 5) rfl nd rfl rfl (by decide) rfl rfl (pa_cons (pe_df Dread_number hr (by omega) (pa_cons (pe_ix ix_seq (pv 2) pe_int (fun _ _ => rfl)) pa_nil)) (pa_cons (pe_ifExp (pt_cmpR (uEq hr.units) (pe_ix ix_seq (pv 2) pe_int (fun _ _ => rfl)) pe_str (nomark _)) pe_non (pe_df Dread_number hr (by omega) (pa_cons (pe_ix ix_seq (pv 2) pe_int (fun _ _ => rfl)) pa_nil))) pa_nil)) rfl)
      (pss_cons (ps_expr (pe_dfX Dneed_row hr (by omega) (passes_call (takes_of rfl rfl rfl rfl) fun _ _ _ _ h => h) (pa_cons (pe_and (pe_cmpR op_notN (pv 4) pe_non (nomark _)) (pe_and (pe_cmpR op_le (pv 4) (pe_glob (v := .int ci_MOST_ARGUMENTS) rfl g_MOST_ARGUMENTS ⟨_, rfl⟩) (nomark _)) (pe_one (pe_or (pe_cmpR (uEq hr.units) (pe_ix ix_seq (pv 2) pe_int (fun _ _ => rfl)) pe_str (nomark _)) (pe_one (pe_and (pe_cmpR op_notN (pv 5) pe_non (nomark _)) (pe_one (pe_cmpR op_lt (pv 5) (pv 4) (nomark _))))))))) (pa_cons (pv 1) pa_nil))))
      (pss_cons (ps_expr (pe_dfX Dneed_row hr (by omega) (passes_call (takes_of rfl rfl rfl rfl) fun _ _ _ _ h => h) (pa_cons (pe_and (pe_cmpR op_lt (pe_op uAdd (pv 1) pe_int) (pe_callB uLen (by rfl) n_len (by decide +kernel) (pa_cons (pv 0) pa_nil)) (nomark _)) (pe_one (pe_cmpR (uEq hr.units) (pe_slice uSl (pe_ix ix_seq (pv 0) (pe_op uAdd (pv 1) pe_int) (fun _ _ => rfl)) po_none (po_some pe_int)) pe_str (nomark _)))) (pa_cons (pe_op uAdd (pv 1) pe_int) pa_nil))))
      (pss_cons (ps_set (i := 3) nd rfl (Or.inl rfl) (pe_dfX Dterm_behind hr (by omega) (passes_call (takes_of rfl rfl rfl rfl) fun _ _ _ _ h => h) (pa_cons (pv 0) (pa_cons (pe_op uAdd (pv 1) pe_int) (pa_cons pe_int pa_nil)))))
      (pss_cons (ps_expr (pe_dfX Dneed_row hr (by omega) (passes_call (takes_of rfl rfl rfl rfl) fun _ _ _ _ h => h) (pa_cons (pe_df Dis_closed hr (by omega) (pa_cons (pv 3) pa_nil)) (pa_cons (pe_op uAdd (pv 1) pe_int) pa_nil))))
      (pss_cons (ps_asg (pe_dfX Dread_tree hr (by omega) (passes_call (takes_of rfl rfl rfl rfl) fun _ _ _ _ h => h) (pa_cons (pv 0) (pa_cons (pe_op uAdd (pv 1) pe_int) pa_nil))) (pg_tup rfl (pgs_cons (pg_name (i := 6) nd rfl (Or.inl rfl)) (pgs_cons (pg_name (i := 7) nd rfl (Or.inl rfl)) pgs_nil))))
      (pss_one (ps_ret (pe_tupN (pa_cons (pe_tupN (pa_cons pe_str (pa_cons (pe_ix ix_seq (pv 2) pe_int (fun _ _ => rfl)) (pa_cons (pv 3) (pa_cons (pv 4) (pa_cons (pv 5) (pa_cons (pv 6) (pa_cons (pe_cmpR (uEq hr.units) (pe_ix ix_seq (pv 2) pe_int (fun _ _ => rfl)) pe_str (nomark _)) pa_nil)))))))) (pa_cons (pv 7) pa_nil))))))))))))), ?_⟩
    refine ⟨_, rfl, _, rfl, ix_row hlr hj hz ⟨⟨_, rfl⟩, z, " ", rfl, rfl, by decide +kernel, by rw [sizeLine_eq]; omega, fun lw nw => ?_⟩⟩
    have e1 : Same H (upd H lw (.lst ((wsOf z).map V.str))) := same_new nw
    have hw1 : upd H lw (.lst ((wsOf z).map V.str)) lw = some (.lst ((wsOf z).map V.str)) := upd_same
    generalize upd H lw (.lst ((wsOf z).map V.str)) = H1 at e1 hw1 ⊢
    unfold rdF at k
    have hd0 : fnHd (wsOf z) = false → badAt CT E H n := fun hk => by rw [if_neg (by rw [hk]; decide)] at k; exact k
    have hd1 : fnHd (wsOf z) = (decide ((wsOf z).length = 5) && (decide ((wsOf z).getD 0 "" = "function") && (isSm ((wsOf z).getD 1 "") && decide ((wsOf z).getD 4 "" ∈ (["shut", "open"] : List Str))))) := rfl
    refine ⟨_, rfl, _, (wsOf z).length, rfl, .inl ⟨_, SqL.of hw1, by simp⟩, eq_f (b := decide ((wsOf z).length = 5)) rfl (by rw [Bool.false_xor]; exact dec_len rfl rfl) ⟨_, rfl, ite2 (fun h4 => ?_) (fun h4 => ?_)⟩⟩
    rotate_left
    · exact ⟨_, rfl, nr_bad hj ((hd0 (by rw [hd1, eq_false_of_ne_true h4]; rfl)).same e1)⟩
    have l4 := of_decide_eq_true h4
    rw [h4, Bool.true_and] at hd1
    refine ⟨_, rfl, ixw (i := 0) hw1 (by omega) (eq_str (b := decide ((wsOf z).getD 0 "" = "function")) (Bool.false_xor _) ⟨_, rfl, ite2 (fun h5 => ?_) (fun h5 => ?_)⟩)⟩
    rotate_left
    · exact ⟨_, rfl, nr_bad hj ((hd0 (by rw [hd1, eq_false_of_ne_true h5]; rfl)).same e1)⟩
    rw [h5, Bool.true_and] at hd1
    refine ⟨_, rfl, ixw (i := 1) hw1 (by omega) ⟨⟨_, rfl, hwl 1, fun H2 e2 => ⟨_, rfl, ?_⟩⟩⟩⟩
    have hw2 := e2 _ _ hw1
    replace e2 := e1.trans e2
    cases hcap : isSm ((wsOf z).getD 1 "") with
    | false => exact iteF ⟨_, rfl, nr_bad hj ((hd0 (by rw [hd1, hcap]; rfl)).same e2)⟩
    | true =>
    rw [hcap, Bool.true_and] at hd1
    refine iteT ⟨_, rfl, ixw (i := 4) hw2 (by omega) (tup_at (xs := [.str "shut", .str "open"]) (by show 2 ≤ 1000; decide) fun q nq => in_t (SqT.of upd_same) rfl rfl (b := decide ((wsOf z).getD 4 "" ∈ (["shut", "open"] : List Str))) ((Bool.false_xor _).trans (inV_str _ ["shut", "open"])) ⟨_, rfl, ?_⟩)⟩
    have e3 := e2.trans (same_new (o := .tup [V.str "shut", .str "open"]) nq)
    have hw3 := (same_new (o := .tup [V.str "shut", .str "open"]) nq) _ _ hw2
    generalize upd H2 q (.tup [V.str "shut", .str "open"]) = H3 at e3 hw3 ⊢
    cases hop : decide ((wsOf z).getD 4 "" ∈ (["shut", "open"] : List Str)) with
    | false => exact nr_bad hj ((hd0 (hd1.trans hop)).same e3)
    | true =>
    rw [hop] at hd1
    rw [if_pos hd1] at k
    refine nr_ok ?_
    clear hd0 hd1 e1 hw1 h4 h5 e2 hw2 nq
    refine ⟨_, rfl, ixw (i := 2) hw3 (by omega) ⟨⟨_, rfl, hwl 2, fun H4 e4 => ?_⟩⟩⟩
    have hw4 := e4 _ _ hw3
    replace e4 := e3.trans e4
    clear e3 hw3
    have hlr4 := e4 _ _ hlr
    refine if_none hw4 (by omega) (hwl 3) rfl fun H5 e5 => ?_
    have hw5 := e5 _ _ hw4
    have hlr5 := e5 _ _ hlr4
    replace e5 := e4.trans e5
    clear e4 hw4 hlr4
    unfold numV
    cases hm2 : readNum ((wsOf z).getD 2 "") with
    | none =>
      rw [hm2] at k
      have k : badAt CT E H n := k
      exact ⟨_, _, rfl, _, rfl, rfl, _, rfl, iteF ⟨_, rfl, nr_bad hj (k.same e5)⟩⟩
    | some many =>
    rw [hm2] at k
    dsimp only at k
    refine ⟨_, _, rfl, _, rfl, rfl, _, rfl, iteT ⟨_, rfl, _, _, rfl, rfl, _, rfl, ite2 (fun h6 => ?_) (fun h6 => ?_)⟩⟩
    rotate_left
    · have h6 : ¬ many ≤ 60 := fun q => h6 (decide_eq_true (by show (many : Int) ≤ 60; omega))
      rw [if_neg h6] at k
      have k : badAt CT E H n := k
      exact ⟨_, rfl, nr_bad hj (k.same e5)⟩
    have h6 : many ≤ 60 := by
      have q : (many : Int) ≤ 60 := of_decide_eq_true h6
      omega
    rw [if_pos h6] at k
    refine or_at (many := many) hw5 (by omega) rfl rfl rfl ⟨_, rfl, ?_⟩
    cases hat : atOf ((wsOf z).getD 3 "") many with
    | none =>
      rw [hat] at k
      have k : badAt CT E H n := k
      exact nr_bad hj (k.same e5)
    | some a =>
    rw [hat] at k
    dsimp only at k
    rw [atW_at hat]
    refine nr_ok ?_
    -- the type's row
    have bad1 : rdTy (rs.drop (n + 1)) = none → badAt CT E H (n + 1) := fun q => by rw [q] at k; exact k
    refine ⟨_, rfl, add_i ⟨_, rfl, _, rs.length, rfl, lenW hlr5, _, _, rfl, rfl, ⟨_, rfl, ite2 (fun h7 => ?_) (fun h7 => ?_)⟩⟩⟩
    rotate_left
    · have h7 : ¬ n + 1 < rs.length := fun q => h7 (decide_eq_true (by omega))
      exact ⟨_, rfl, add_i (nr_bad (m := n + 1) (by omega) ((bad1 (by rw [List.drop_of_length_le (by omega)]; rfl)).same e5))⟩
    have h7 : n + 1 < rs.length := by have := of_decide_eq_true h7; omega
    obtain ⟨y, hy⟩ : ∃ y, rs[n + 1]? = some y := ⟨_, List.getElem?_eq_getElem h7⟩
    have hym : okR y := hrs.2 y (List.mem_of_getElem? hy)
    have hyl := okR_len hym
    rw [drop_row hy] at bad1 k
    have hty : rdTy (y :: rs.drop (n + 1 + 1)) = if cutS y none (some (5 : Nat)) = "type " then (match tbz y 1 with
      | some t => if t.closed 0 = true then some t else none
      | none => none) else none := rfl
    refine ⟨_, rfl, _, rfl, add_i (ix_row hlr5 (show j + 1 = ((n + 1 : Nat) : Int) by omega) hy ⟨_, rfl, sl_s (by omega) (eq_str (b := decide (cutS y none (some ((5 : Nat) : Int)) = "type ")) (Bool.false_xor _) ⟨_, rfl, add_i ?_⟩)⟩)⟩
    by_cases h8 : cutS y none (some ((5 : Nat) : Int)) = "type "
    rotate_left
    · rw [decide_eq_false h8]
      exact nr_bad (m := n + 1) (by omega) ((bad1 (by rw [hty, if_neg h8])).same e5)
    rw [decide_eq_true h8]
    rw [if_pos h8] at hty
    refine nr_ok ?_
    refine ⟨_, rfl, _, rfl, add_i ⟨⟨lr, rs, n + 1, 1, _, rfl, by omega, hlr5, hrs, fun t ⟨y', hy', ht⟩ v3 H6 e6 dv6 => ?_, fun hno d H' q1 q2 q3 => ?_⟩⟩⟩
    rotate_left
    · have : tbz y 1 = none := hno y hy
      rw [this] at hty
      exact ((bad1 hty).same e5) d H' q1 q2 q3
    rw [hy] at hy'
    cases hy'
    rw [ht] at hty
    dsimp only at hty
    obtain ⟨⟨twf, tlen⟩, _⟩ := tbz_ok hym ht
    have tnodes := nodes_le t
    have hw6 := e6 _ _ hw5
    replace e6 := e5.trans e6
    refine ⟨_, rfl, ⟨⟨v3, t, rfl, dv6, twf, by omega, fun H7 e7 => ⟨_, rfl, add_i ?_⟩⟩⟩⟩
    cases hcl : t.closed 0 with
    | false =>
      rw [hcl, if_neg (by decide)] at hty
      exact nr_bad (m := n + 1) (by omega) ((bad1 hty).same (e6.trans e7))
    | true =>
    rw [hcl, if_pos rfl] at hty
    rw [hty] at k
    dsimp only at k
    rw [show (y :: rs.drop (n + 1 + 1)).drop 1 = rs.drop (n + 2) from rfl] at k
    clear bad1 hty
    refine nr_ok ?_
    have hw7 := e7 _ _ hw6
    have dv7 := dv6.same e7
    replace e7 := e6.trans e7
    clear e5 e6 hw5 hw6 dv6 hlr5
    refine ⟨_, rfl, _, rfl, add_i ⟨⟨lr, rs, n + 2, _, rfl, by omega, e7 _ _ hlr, hrs, by omega, (fun q => by cases q), ?_⟩⟩⟩
    show got K CT H7 _ E Tr.pd (rdT (rs.drop (n + 2)) (n + 2) [])
    cases hR : rdT (rs.drop (n + 2)) (n + 2) [] with
    | error m =>
      rw [hR] at k
      have k : badAt CT E H m := k
      exact k.same e7
    | ok q =>
    obtain ⟨tr, m⟩ := q
    rw [hR] at k
    have k : ∀ v H', Same H H' → Dt K H' v (.tuple [(Dcl.fn ((wsOf z).getD 1 "") t many a tr (decide ((wsOf z).getD 4 "" = "shut"))).pd, .int (m : Nat)]) → Q v H' := k
    intro v8 H8 e8 dv8
    obtain ⟨p8, xs, rfl, hT8, hD⟩ := dv8.tupI
    obtain ⟨v6, r1, rfl, d6, hD⟩ := hD.consI
    obtain ⟨v7, r2, rfl, d7, hD⟩ := hD.consI
    obtain rfl := hD.nilI
    obtain rfl := d7.intI
    have hw8 := e8 _ _ hw7
    have dv3 := dv7.same e8
    replace e8 := e7.trans e8
    refine ⟨p8, _, rfl, hT8, rfl, _, _, rfl, _, _, rfl, rfl, ?_⟩
    refine ⟨_, rfl, ixw (i := 1) hw8 (by omega) ⟨_, rfl, _, rfl, _, rfl, _, rfl, _, rfl, ixw (i := 4) hw8 (by omega) (eq_str (Bool.false_xor _) ?_)⟩⟩
    refine tup_new (K := K) (ds := [.str "function", .str ((wsOf z).getD 1 ""), t.pd, .int (many : Nat), atD a, tr.pd, .bool (decide ((wsOf z).getD 4 "" = "shut"))]) (.cons (.str _) (.cons (.str _) (.cons dv3 (.cons (.int _) (.cons (atV_dt a) (.cons d6 (.cons (.bl _) .nil))))))) (by show 7 ≤ 1000; decide) fun vk H10 e10 dk => ?_
    refine ⟨_, rfl, tup_new (K := K) (ds := [(Dcl.fn ((wsOf z).getD 1 "") t many a tr (decide ((wsOf z).getD 4 "" = "shut"))).pd, .int (m : Nat)]) (.cons dk (.cons (.int _) .nil)) (by show 2 ≤ 1000; decide) fun vr H11 e11 dr => ?_⟩
    exact k vr H11 (e8.trans (e10.trans e11)) dr
end
end RS

/-! ReadD6: read_from, read_declared, read_declarations. -/
namespace RS
open PySem PySem.Spec PyProof.Rows L2 TL NdefX

def spRdFrom (K : PySem.W.Frag) (CT : Addr) : Sp := fun vs H Q E => rRd false K CT Dcl.pd rdFrom vs H Q E
/-- a text, or no text at all -/
structure rTxt (K : PySem.W.Frag) (CT : Addr) (vs : List V) (H : Hp) (E : XK) (ok : Str → Prop) : Prop where
  ex : ∃ v, vs = [v] ∧ ((∃ z : Str, v = .str z ∧ z.length ≤ 10000000 ∧ ok z) ∨ (∃ t, TyX K H v (.type t) ∧ L2.kitB t "str" = some false ∧ badAt CT E H 0))
def spRd1 (K : PySem.W.Frag) (CT : Addr) : Sp := fun vs H Q E => rTxt K CT vs H E fun z => okRs (rowsOf z) ∧ match rdOne (rowsOf z) with
  | .ok d => ∀ v H', Same H H' → Dt K H' v d.pd → Q v H'
  | .error k => badAt CT E H k
def spRdAll (K : PySem.W.Frag) (CT : Addr) : Sp := fun vs H Q E => rTxt K CT vs H E fun z => okRs (nearRs z) ∧ match RdAll (nearRs z) 0 with
  | .ok ds => ∀ v H', Same H H' → Dt K H' v (.tuple (ds.map Dcl.pd)) → Q v H'
  | .error k => badAt CT E H k
theorem if_rows {K : PySem.W.Frag} {σ : L2.St} {z : Str} {H : Hp} {Q : VK} (hσ : σ[0]? = some (some (.str z))) (hz : z.length ≤ 10000000) (k : ∀ p H', Same H H' → H p = none → H' p = some (.lst ((nearRs z).map V.str)) → Q (.ref p) H') :
    tIf (tTest (tOp (rEqU K true) (tVar 0) (tC (.str "")))) (tM1 rSplitS (tVar 0) (tC (.str "\n"))) (tLstN tNil) σ H Q := by
  refine ⟨_, hσ, eq_str (b := !decide (z = "")) (Bool.true_xor _) ⟨_, rfl, ?_⟩⟩
  unfold nearRs at k
  by_cases h : z = ""
  · rw [if_pos h] at k
    rw [decide_eq_true h]
    exact iteF (lst_new (Nat.zero_le _) fun p np => k p _ (same_new np) np upd_same)
  · rw [if_neg h] at k
    rw [decide_eq_false h]
    exact iteT ⟨_, hσ, ⟨_, rfl⟩, z, "\n", rfl, rfl, by decide +kernel, by rw [sizeLine_eq]; omega, fun p np => k p _ (same_new np) np upd_same⟩
section
variable {P : Program} {w : World} {K : PySem.W.Frag} {mg : Str → Option Value} {base : Heap}
theorem sc_read_from : FnScope ["rows", "row"] ["rows", "row"] (defScope s_read_from) := ⟨rfl, rfl, rfl, by decide +kernel, rfl, by decide +kernel, by decide +kernel⟩
theorem ok_read_from {f CT : Addr} {fd : FuncData} (F : Fun K "read_from" "read_from" s_read_from f fd) (n_len : mg "len" = none)
    (Dneed_row : DfX P w K mg base "need_row" 3 ["right", "row"] (spNR CT)) (Dread_kind : DfX P w K mg base "read_kind" 8 ["rows", "row"] (spRdK K CT)) (Dread_function : DfX P w K mg base "read_function" 9 ["rows", "row"] (spRdF K CT)) : FnOk P w K mg base (L2.CX P w) 10 f fd ["rows", "row"] (spRdFrom K CT) := by
  refine F.okX sc_read_from (fun vs H Q E h => ?_) (fun cdv A outer s H vs Q E hr h => ?_)
  · obtain ⟨lr, rs, n, j, rfl, _⟩ := h.ex; rfl
  · obtain ⟨lr, rs, n, j, rfl, hj, hlr, hrs, hn, _, k⟩ := h.ex
    clear h
    have nd := sc_read_from.nd
    refine ⟨_, (pss_cons (ps_expr (pe_dfX Dneed_row hr (by omega) (passes_call (takes_of rfl rfl rfl rfl) fun _ _ _ _ h => h) (pa_cons (pe_cmpR op_lt (pv 1) (pe_callB uLen (by rfl) n_len (by decide +kernel) (pa_cons (pv 0) pa_nil)) (nomark _)) (pa_cons (pv 1) pa_nil))))
      (pss_one (ps_ret (pe_ifExp (pt_cmpR (uEq hr.units) (pe_slice uSl (pe_ix ix_seq (pv 0) (pv 1) (fun _ _ => rfl)) po_none (po_some pe_int)) pe_str (nomark _)) (pe_dfX Dread_kind hr (by omega) (passes_call (takes_of rfl rfl rfl rfl) fun _ _ _ _ h => h) (pa_cons (pv 0) (pa_cons (pv 1) pa_nil))) (pe_dfX Dread_function hr (by omega) (passes_call (takes_of rfl rfl rfl rfl) fun _ _ _ _ h => h) (pa_cons (pv 0) (pa_cons (pv 1) pa_nil))))))), ?_⟩
    refine ⟨_, rfl, _, rfl, _, rs.length, rfl, lenW hlr, _, _, rfl, rfl, ⟨_, rfl, ⟨⟨_, _, rfl, fun hb => ?_, fun hb => ?_⟩⟩⟩⟩
    rotate_left
    · have hlt : ¬ n < rs.length := by have := of_decide_eq_false hb; omega
      rw [List.drop_of_length_le (by omega)] at k
      have k : badAt CT E H n := k
      subst hj
      exact k
    have hlt : n < rs.length := by have := of_decide_eq_true hb; omega
    obtain ⟨z, hz⟩ : ∃ z, rs[n]? = some z := ⟨_, List.getElem?_eq_getElem hlt⟩
    have hzm : okR z := hrs.2 z (List.mem_of_getElem? hz)
    have hzl := okR_len hzm
    rw [drop_row hz] at k
    have e0 : rdFrom (z :: rs.drop (n + 1)) n = if cutS z none (some (5 : Nat)) = "kind " then rdK z (rs.drop (n + 1)) n else rdF z (rs.drop (n + 1)) n := rfl
    rw [e0] at k
    refine ⟨_, rfl, _, rfl, ix_row hlr hj hz ⟨_, rfl, sl_s (by omega) (eq_str (b := decide (cutS z none (some ((5 : Nat) : Int)) = "kind ")) (Bool.false_xor _) ⟨_, rfl, ite2 (fun h => ?_) (fun h => ?_)⟩)⟩⟩
    · rw [if_pos (of_decide_eq_true h)] at k
      refine ⟨_, rfl, _, rfl, ⟨⟨lr, rs, n, j, rfl, hj, hlr, hrs, hn, fun _ => hlt, ?_⟩⟩⟩
      rw [drop_row hz]
      exact k
    · rw [if_neg (fun q => h (decide_eq_true q))] at k
      refine ⟨_, rfl, _, rfl, ⟨⟨lr, rs, n, j, rfl, hj, hlr, hrs, hn, fun _ => hlt, ?_⟩⟩⟩
      rw [drop_row hz]
      exact k
theorem sc_read_declared : FnScope ["text", "rows", "found", "behind"] ["text"] (defScope s_read_declared) := ⟨rfl, rfl, rfl, by decide +kernel, rfl, by decide +kernel, by decide +kernel⟩
theorem ok_read_declared {f CT : Addr} {fd : FuncData} (F : Fun K "read_declared" "read_declared" s_read_declared f fd) (n_isinstance : mg "isinstance" = none) (n_str : mg "str" = none) (n_len : mg "len" = none) (Mv_BadText : MkX P w K mg base "BadText" CT 1 ["self", "at"] (spIni CT (fs1 "at") 1) ["at"] [0])
    (Dneed_row : DfX P w K mg base "need_row" 3 ["right", "row"] (spNR CT)) (Dread_from : DfX P w K mg base "read_from" 10 ["rows", "row"] (spRdFrom K CT)) : FnOk P w K mg base (L2.CX P w) 11 f fd ["text"] (spRd1 K CT) := by
  refine F.okX sc_read_declared (fun vs H Q E h => ?_) (fun cdv A outer s H vs Q E hr h => ?_)
  · obtain ⟨v, rfl, _⟩ := h.ex; rfl
  · obtain ⟨v, rfl, h2⟩ := h.ex
    clear h
    have nd := sc_read_declared.nd
    refine ⟨_, (pss_cons (ps_if (pt_not (pt_val (pe_callB call_isU (by rfl) n_isinstance (by decide +kernel) (pa_cons (pv 0) (pa_cons (pe_bltn (v := .ty "str") rfl n_str (by decide +kernel) rfl) pa_nil)))))
        (pss_one (ps_raise rfl (takes_of rfl rfl rfl rfl) (pmk_mkX Mv_BadText hr (by omega) (pa_cons pe_int pa_nil))))
        pss_nil)
      (pss_cons (ps_set (i := 1) nd rfl (Or.inl rfl) (pe_split (pv 0) pe_str))
      (pss_cons (ps_asg (pe_dfX Dread_from hr (by omega) (passes_call (takes_of rfl rfl rfl rfl) fun _ _ _ _ h => h) (pa_cons (pv 1) (pa_cons pe_int pa_nil))) (pg_tup rfl (pgs_cons (pg_name (i := 2) nd rfl (Or.inl rfl)) (pgs_cons (pg_name (i := 3) nd rfl (Or.inl rfl)) pgs_nil))))
      (pss_cons (ps_expr (pe_dfX Dneed_row hr (by omega) (passes_call (takes_of rfl rfl rfl rfl) fun _ _ _ _ h => h) (pa_cons (pe_cmpR (uEq hr.units) (pv 3) (pe_callB uLen (by rfl) n_len (by decide +kernel) (pa_cons (pv 1) pa_nil)) (nomark _)) (pa_cons (pv 3) pa_nil))))
      (pss_one (ps_ret (pv 2))))))), ?_⟩
    rcases h2 with ⟨z, rfl, hz, hrs, k⟩ | ⟨t, ht, hkb, k⟩
    rotate_left
    · exact ⟨_, rfl, isi_u ht hkb ⟨false, rfl, iteT (raise_at fun d H' e3 nd hd => k d H' e3 nd hd)⟩⟩
    refine ⟨_, rfl, isi_u (.base (.str z)) (by decide +kernel) ⟨true, rfl, iteF ?_⟩⟩
    refine ⟨_, rfl, ⟨_, rfl⟩, z, "\n", rfl, rfl, by decide +kernel, by rw [sizeLine_eq]; omega, fun lr nr => ?_⟩
    have e1 : Same H (upd H lr (.lst ((rowsOf z).map V.str))) := same_new nr
    have hr1 : upd H lr (.lst ((rowsOf z).map V.str)) lr = some (.lst ((rowsOf z).map V.str)) := upd_same
    generalize upd H lr (.lst ((rowsOf z).map V.str)) = H1 at e1 hr1 ⊢
    unfold rdOne at k
    refine ⟨_, rfl, ⟨⟨lr, rowsOf z, 0, 0, rfl, rfl, hr1, hrs, Nat.zero_le _, (fun q => by cases q), ?_⟩⟩⟩
    rw [List.drop_zero]
    cases hR : rdFrom (rowsOf z) 0 with
    | error m =>
      rw [hR] at k
      have k : badAt CT E H m := k
      exact k.same e1
    | ok q =>
    obtain ⟨d, m⟩ := q
    rw [hR] at k
    dsimp only at k
    intro v8 H8 e8 dv8
    obtain ⟨p8, xs, rfl, hT8, hD⟩ := dv8.tupI
    obtain ⟨v6, r1, rfl, d6, hD⟩ := hD.consI
    obtain ⟨v7, r2, rfl, d7, hD⟩ := hD.consI
    obtain rfl := hD.nilI
    obtain rfl := d7.intI
    have hr8 := e8 _ _ hr1
    replace e8 := e1.trans e8
    refine ⟨p8, _, rfl, hT8, rfl, _, _, rfl, _, _, rfl, rfl, ?_⟩
    refine ⟨_, rfl, _, rfl, _, (rowsOf z).length, rfl, lenW hr8, eq_f (b := decide (m = (rowsOf z).length)) rfl (by rw [Bool.false_xor]; exact dec_len rfl rfl) ⟨_, rfl, ⟨⟨_, _, rfl, fun hb => ?_, fun hb => ?_⟩⟩⟩⟩
    · rw [if_pos (of_decide_eq_true hb)] at k
      have k : ∀ v H', Same H H' → Dt K H' v d.pd → Q v H' := k
      exact ⟨_, rfl, k _ _ e8 d6⟩
    · rw [if_neg (of_decide_eq_false hb)] at k
      have k : badAt CT E H m := k
      exact k.same e8
theorem sc_read_declarations : FnScope ["text", "rows", "row", "found", "one"] ["text"] (defScope s_read_declarations) := ⟨rfl, rfl, rfl, by decide +kernel, rfl, by decide +kernel, by decide +kernel⟩
theorem ok_read_declarations {f CT : Addr} {fd : FuncData} (F : Fun K "read_declarations" "read_declarations" s_read_declarations f fd) (n_isinstance : mg "isinstance" = none) (n_str : mg "str" = none) (n_tuple : mg "tuple" = none) (n_len : mg "len" = none) (Mv_BadText : MkX P w K mg base "BadText" CT 1 ["self", "at"] (spIni CT (fs1 "at") 1) ["at"] [0])
    (Dread_from : DfX P w K mg base "read_from" 10 ["rows", "row"] (spRdFrom K CT)) : FnOk P w K mg base (L2.CX P w) 11 f fd ["text"] (spRdAll K CT) := by
  refine F.okX sc_read_declarations (fun vs H Q E h => ?_) (fun cdv A outer s H vs Q E hr h => ?_)
  · obtain ⟨v, rfl, _⟩ := h.ex; rfl
  · obtain ⟨v, rfl, h2⟩ := h.ex
    clear h
    have nd := sc_read_declarations.nd
    refine ⟨_, (pss_cons (ps_if (pt_not (pt_val (pe_callB call_isU (by rfl) n_isinstance (by decide +kernel) (pa_cons (pv 0) (pa_cons (pe_bltn (v := .ty "str") rfl n_str (by decide +kernel) rfl) pa_nil)))))
        (pss_one (ps_raise rfl (takes_of rfl rfl rfl rfl) (pmk_mkX Mv_BadText hr (by omega) (pa_cons pe_int pa_nil))))
        pss_nil)
      (pss_cons (ps_par3 (i := 1) (j := 2) (l := 3) rfl nd rfl rfl rfl (by decide) (by decide) (by decide) rfl rfl rfl (pa_cons (pe_ifExp (pt_cmpR (uNe hr.units) (pv 0) pe_str (nomark _)) (pe_split (pv 0) pe_str) (pe_lstN pa_nil)) (pa_cons pe_int (pa_cons (pe_lstN pa_nil) pa_nil))) rfl)
      (pss_cons (ps_while (passes_of rfl) (pt_cmpR op_lt (pv 2) (pe_callB uLen (by rfl) n_len (by decide +kernel) (pa_cons (pv 1) pa_nil)) (nomark _))
        (pss_cons (ps_asg (pe_dfX Dread_from hr (by omega) (passes_call (takes_of rfl rfl rfl rfl) fun _ _ _ _ h => h) (pa_cons (pv 1) (pa_cons (pv 2) pa_nil))) (pg_tup rfl (pgs_cons (pg_name (i := 4) nd rfl (Or.inl rfl)) (pgs_cons (pg_name (i := 2) nd rfl (Or.inl rfl)) pgs_nil))))
        (pss_one (ps_expr (pe_bm PySem.F.plainAttrs_list PySem.F.slot_list_append PySem.F.type_list_append mt_append (pv 3) (pa_cons (pv 4) pa_nil))))))
      (pss_one (ps_ret (pe_callTy call_tuple_of (by rfl) n_tuple (by decide +kernel) (pa_cons (pv 3) pa_nil))))))), ?_⟩
    rcases h2 with ⟨z, rfl, hz, hrs, k⟩ | ⟨t, ht, hkb, k⟩
    rotate_left
    · exact ⟨_, rfl, isi_u ht hkb ⟨false, rfl, iteT (raise_at fun d H' e3 nd hd => k d H' e3 nd hd)⟩⟩
    refine ⟨_, rfl, isi_u (.base (.str z)) (by decide +kernel) ⟨true, rfl, iteF ?_⟩⟩
    refine if_rows rfl hz fun lr H1 e1 nr hr1 => ?_
    obtain ⟨rs, hrsE⟩ : ∃ rs, rs = nearRs z := ⟨_, rfl⟩
    rw [← hrsE] at hr1 hrs k
    have hrl := hrs.1
    obtain ⟨R, hR⟩ : ∃ R, R = RdAll rs 0 := ⟨_, rfl⟩
    rw [← hR] at k
    have eE : ∀ m, R = .error m → badAt CT E H m := fun m e => by rw [e] at k; exact k
    have eQ : ∀ ds, R = .ok ds → ∀ v H', Same H H' → Dt K H' v (.tuple (ds.map Dcl.pd)) → Q v H' := fun ds e => by rw [e] at k; exact k
    clear k
    refine lst_new (Nat.zero_le _) fun lf nlf => ⟨_, _, _, rfl, ?_⟩
    have e2 : Same H (upd H1 lf (.lst [])) := e1.trans (same_new nlf)
    have nlf0 : H lf = none := e1.free nlf
    have hne : lr ≠ lf := ne_of_none hr1 nlf
    have hr2 : upd H1 lf (.lst []) lr = some (.lst (rs.map V.str)) := (upd_ne hne).trans hr1
    have hf2 : upd H1 lf (.lst []) lf = some (.lst []) := upd_same
    generalize upd H1 lf (.lst []) = H2 at e2 hr2 hf2 ⊢
    refine ⟨fun m σ H3 => ∃ (n : Nat) (ds : List Dcl) (vals : List V) (x4 : Option V), σ = [some (.str z), some (.ref lr), some (.int n), some (.ref lf), x4] ∧ Same H H3 ∧ H3 lr = some (.lst (rs.map V.str)) ∧ H3 lf = some (.lst vals) ∧ DtAll K H3 vals (ds.map Dcl.pd) ∧ n ≤ rs.length ∧ ds.length ≤ n ∧
        R = (match RdAll rs n with
          | .ok ds' => .ok (ds ++ ds')
          | .error k => .error k) ∧ m = rs.length - n,
      ⟨_, 0, [], [], _, rfl, e2, hr2, hf2, .nil, Nat.zero_le _, Nat.zero_le _, by rw [hR]; cases RdAll rs 0 <;> rfl, rfl⟩, ?_⟩
    clear e1 e2 hr1 hr2 hf2 nlf hR
    rintro m σ H3 ⟨n, ds, vals, x4, rfl, e3, hr3, hf3, dA, hn, hdn, hR, rfl⟩
    refine ⟨_, rfl, _, rfl, _, rs.length, rfl, lenW hr3, _, _, rfl, rfl, _, rfl, ite2 (fun hb => ?_) (fun hb => ?_)⟩
    · have hlt : n < rs.length := by have := of_decide_eq_true hb; omega
      refine ⟨_, fun _ _ h => h, ?_⟩
      refine ⟨_, rfl, _, rfl, ⟨⟨lr, rs, n, _, rfl, rfl, hr3, hrs, hn, (fun q => by cases q), ?_⟩⟩⟩
      have hin := rdFrom_in (rs.drop n) n
      rw [List.length_drop] at hin
      cases hq : rdFrom (rs.drop n) n with
      | error j =>
        rw [RdAll_bad hlt hq] at hR
        exact (eE j hR).same e3
      | ok q =>
      obtain ⟨d, m'⟩ := q
      rw [hq] at hin
      dsimp only at hin
      rw [RdAll_step hlt hq] at hR
      intro v8 H8 e8 dv8
      obtain ⟨p8, xs, rfl, hT8, hD⟩ := dv8.tupI
      obtain ⟨v6, r1, rfl, d6, hD⟩ := hD.consI
      obtain ⟨v7, r2, rfl, d7, hD⟩ := hD.consI
      obtain rfl := hD.nilI
      obtain rfl := d7.intI
      refine ⟨p8, _, rfl, hT8, rfl, _, _, rfl, _, _, rfl, rfl, ?_⟩
      have hf8 := e8 _ _ hf3
      have hr8 := e8 _ _ hr3
      have dA8 := DtAll.keep (TK.same (K := K) e8) _ dA
      replace e8 := e3.trans e8
      have lv := dA.length
      rw [List.length_map] at lv
      refine ⟨_, rfl, .inl ⟨rfl, _, SqL.of hf8⟩, _, rfl, lf, _, _, rfl, rfl, hf8, lt_line (by omega), ?_⟩
      have tk : TK K H8 (upd H8 lf (.lst (vals ++ [v6]))) := TK.lst hf8
      refine ⟨rs.length - m', by omega, m', ds ++ [d], vals ++ [v6], _, rfl, same_mut e8 nlf0, by rw [upd_ne hne]; exact hr8, upd_same, ?_, by omega, by rw [List.length_append, List.length_singleton]; omega, ?_, rfl⟩
      · rw [List.map_append]
        exact (DtAll.keep tk _ dA8).append (.cons (Dt.keep tk _ d6) .nil)
      · rw [hR]
        cases RdAll rs m' with
        | error k => rfl
        | ok ds' => show Except.ok (ds ++ (d :: ds')) = Except.ok ((ds ++ [d]) ++ ds'); simp
    · have hlt : ¬ n < rs.length := fun q => hb (decide_eq_true (by omega))
      rw [RdAll_end hlt] at hR
      have hR : R = .ok ds := by rw [hR]; show Except.ok (ds ++ []) = _; rw [List.append_nil]
      refine ⟨_, rfl, lf, vals, rfl, .inl ⟨SqL.of hf3, fun T nT => ?_⟩⟩
      exact eQ ds hR _ _ (e3.trans (same_new nT)) (.tup (SqT.of upd_same) (DtAll.keep (TK.new nT) _ dA))
end
end RS

/-! With6: the law's own putting back of leaves (k02/With's first part). -/
namespace RS
open PySem PySem.Spec PyProof.Rows L2 TL

def Tm.led (g : Tm → Int → Tm) : Tm → Int → Tm
  | .bin w m a b, n => .bin w m (a.led g n) (b.led g (n + 1))
  | .letT a b c, n => .letT (a.led g n) (b.led g n) (c.led g (n + 1))
  | .app f m x, n => .app (f.led g n) m (x.led g n)
  | .num w i, n => g (.num w i) n
  | .name x, n => g (.name x) n
  | .count x i, n => g (.count x i) n
theorem if_so {A B : Prop} {b : Bool} (h : b = true) (a : A) : if b = true then A else B := by rw [if_pos h]; exact a
theorem if_not {A B : Prop} {b : Bool} (h : b = false) (a : B) : if b = true then A else B := by rw [h]; exact iteF a
/-- all but l stays -/
def Mu (l : Addr) (H H' : Hp) : Prop := ∀ b o, b ≠ l → H b = some o → H' b = some o
theorem Mu.trans {l : Addr} {H H1 H2 : Hp} (a : Mu l H H1) (b : Mu l H1 H2) : Mu l H H2 := fun c o n h => b c o n (a c o n h)
theorem Mu.same {l : Addr} {H H' : Hp} (e : Same H H') : Mu l H H' := fun b o _ h => e b o h
theorem Mu.tk {K : PySem.W.Frag} {l : Addr} {xs : List V} {H H' : Hp} (m : Mu l H H') (h : H l = some (.lst xs)) : TK K H H' :=
  TK.of (fun a ys e => m a _ (ne_of e h (by intro z; cases z)) e) fun a o u e => m a _ (ne_of e h (by intro z; cases z)) e
def tolds (g : Tm → Int → Tm) (ps : List (Tm × Int)) : List Tm := ps.map fun p => g p.1 p.2
theorem tolds_app (g : Tm → Int → Tm) (a b : List (Tm × Int)) : tolds g (a ++ b) = tolds g a ++ tolds g b := List.map_append
def spWith (K : PySem.W.Frag) (N : Nat) : Sp := fun vs H Q _ => ∃ (v : V) (t : Tm) (l : Addr) (xs : List V) (g : Tm → Int → Tm) (n : Int) (rest : List Tm), vs = [v, .ref l] ∧ Dt K H v t.pd ∧ t.wf ∧ t.depth ≤ N ∧ H l = some (.lst xs) ∧
  DtAll K H xs ((tolds g (t.leaves n) ++ rest).map Tm.pd) ∧ ∀ v' H' xs', Mu l H H' → H' l = some (.lst xs') → DtAll K H' xs' (rest.map Tm.pd) → Dt K H' v' (t.led g n).pd → Q v' H'
section
variable {P : Program} {w : World} {K : PySem.W.Frag} {mg : Str → Option Value} {base : Heap}
theorem sc_law_rt_with : FnScope ["term", "leaves", "first", "second"] ["term", "leaves"] (defScope s_law_rt_with) := ⟨rfl, rfl, rfl, by decide +kernel, rfl, by decide +kernel, by decide +kernel⟩
theorem ok_with {f : Addr} {fd : FuncData} (F : Fun K "_law_rt_with" "_law_rt_with" s_law_rt_with f fd) (hm : mg "_law_rt_with" = some (.ref f)) (b : Binds K fd ["term", "leaves"] [])
    (D_law_rt_parts : Df P w K mg base "_law_rt_parts" 1 ["term"] (spParts K)) : ∀ N, FnOk P w K mg base CX0 (N + 1) f fd ["term", "leaves"] (spWith K N)
  | 0 => by
    refine ⟨fun vs H Q E h => ?_, fun A outer s H args us vs Q E _ _ _ _ h => ?_⟩
    · obtain ⟨v, t, l, xs, g, n, rest, rfl, _⟩ := h; rfl
    · obtain ⟨v, t, l, xs, g, n, rest, _, _, _, h1, _⟩ := h
      have := t.depth_pos
      omega
  | N + 1 => by
    have D_law_rt_with : Df P w K mg base "_law_rt_with" (N + 1) ["term", "leaves"] (spWith K N) := ⟨f, fd, ok_with F hm b D_law_rt_parts N, hm, F.kp, b⟩
    refine F.ok sc_law_rt_with (fun vs H Q E h => ?_) (fun cdv A outer s H vs Q E hr h => ?_)
    · obtain ⟨v, t, l, xs, g, n, rest, rfl, _⟩ := h; rfl
    · obtain ⟨v, t, l, xs, g, n, rest, rfl, hv, wf, hd, hl, dx, k⟩ := h
      have nd := sc_law_rt_with.nd
      refine ⟨_, (pss_cons (ps_if (pt_cmpR (uEq hr.units) (pe_df D_law_rt_parts hr (by omega) (pa_cons (pv 0) pa_nil)) (pe_lstN pa_nil) (nomark _))
        (pss_one (ps_ret (pe_bm PySem.F.plainAttrs_list PySem.F.slot_list_pop PySem.F.type_list_pop mt_popAt (pv 1) (pa_cons pe_int pa_nil))))
        pss_nil)
      (pss_cons (ps_if (pt_cmpR uIn (pe_ix ix_seq (pv 0) pe_int (fun _ _ => rfl)) (pe_tupN (pa_cons pe_str (pa_cons pe_str pa_nil))) (by rfl))
        (pss_cons (ps_set (i := 2) nd rfl (Or.inl rfl) (pe_df D_law_rt_with hr (by omega) (pa_cons (pe_ix ix_seq (pv 0) pe_int (fun _ _ => rfl)) (pa_cons (pv 1) pa_nil))))
        (pss_one (ps_ret (pe_tupN (pa_cons (pe_ix ix_seq (pv 0) pe_int (fun _ _ => rfl)) (pa_cons (pe_ix ix_seq (pv 0) pe_int (fun _ _ => rfl)) (pa_cons (pv 2) (pa_cons (pe_df D_law_rt_with hr (by omega) (pa_cons (pe_ix ix_seq (pv 0) pe_int (fun _ _ => rfl)) (pa_cons (pv 1) pa_nil))) pa_nil))))))))
        pss_nil)
      (pss_cons (ps_set (i := 2) nd rfl (Or.inl rfl) (pe_df D_law_rt_with hr (by omega) (pa_cons (pe_ix ix_seq (pv 0) pe_int (fun _ _ => rfl)) (pa_cons (pv 1) pa_nil))))
      (pss_cons (ps_if (pt_cmpR (uEq hr.units) (pe_ix ix_seq (pv 0) pe_int (fun _ _ => rfl)) pe_str (nomark _))
        (pss_one (ps_ret (pe_tupN (pa_cons pe_str (pa_cons (pv 2) (pa_cons (pe_ix ix_seq (pv 0) pe_int (fun _ _ => rfl)) (pa_cons (pe_df D_law_rt_with hr (by omega) (pa_cons (pe_ix ix_seq (pv 0) pe_int (fun _ _ => rfl)) (pa_cons (pv 1) pa_nil))) pa_nil)))))))
        pss_nil)
      (pss_cons (ps_set (i := 3) nd rfl (Or.inl rfl) (pe_df D_law_rt_with hr (by omega) (pa_cons (pe_ix ix_seq (pv 0) pe_int (fun _ _ => rfl)) (pa_cons (pv 1) pa_nil))))
      (pss_one (ps_ret (pe_tupN (pa_cons pe_str (pa_cons (pv 2) (pa_cons (pv 3) (pa_cons (pe_df D_law_rt_with hr (by omega) (pa_cons (pe_ix ix_seq (pv 0) pe_int (fun _ _ => rfl)) (pa_cons (pv 1) pa_nil))) pa_nil)))))))))))), ?_⟩
      obtain ⟨p, ws, rfl, hT0⟩ := dt_word hv
      have h1 := wf_pf wf
      have h3 := wf_app wf
      refine ⟨_, rfl, .ref p, t, rfl, hv, wf, fun lp ps H1 e1 nlp hlp dps => lst_new (Nat.zero_le _) fun q nq => eq_n (SqL.of ((upd_ne (ne_of_none hlp nq)).trans hlp)) (SqL.of upd_same) rfl ⟨_, rfl, ?_⟩⟩
      have e0 := same2 (o := .lst []) e1 nq
      have hl0 := e0 _ _ hl
      have dx0 := DtAll.keep (K := K) (TK.same e0) _ dx
      have hT1 := sqs hT0 e0
      have hv0 := hv.same e0
      generalize upd H1 q (.lst []) = H0 at e0 hl0 dx0 hT1 hv0
      have leafy : t.isLeaf = true → t.leaves n = [(t, n)] → t.led g n = g t n → ps = [] → tSeq (tRet (tBM K "list" rPopAt (tVar 1) (tCons (tC (.int 0)) tNil))) tNext { nx := fun _ H' => Q .non H', rt := Q } [some (.ref p), some (.ref l), none, none] H0 := fun lf el eg _ => by
        rw [el] at dx0
        obtain ⟨y, ys, rfl, dy, dys⟩ := dx0.consI
        refine ⟨_, rfl, .inl ⟨rfl, _, .inl (.inl hl0)⟩, l, _, 0, 0, y, rfl, rfl, hl0, by decide, by decide, by simp [seqIndex?], rfl, ?_⟩
        have m : Mu l H (upd H0 l (.lst ((y :: ys).eraseIdx 0))) := fun b o n h => by rw [upd_ne n]; exact e0 _ _ h
        exact k y _ ys m upd_same (DtAll.keep (TK.lst hl0) _ dys) (by rw [eg]; exact Dt.keep (TK.lst hl0) _ dy)
      cases t with
      | bin w m a b =>
        obtain ⟨p', va, vb, e, hB, ha, hb⟩ := dt_bin hv0
        cases e
        have h1' : ((("pi" : Str) == w) || (("fun" : Str) == w)) = true := h1
        have dm : max a.depth b.depth ≤ N := by simp only [Tm.depth] at hd; omega
        have hne : ps.isEmpty = false := by
          obtain ⟨y, ys, rfl, _⟩ := (show DtAll K H1 ps (pdP (a, 0) :: [pdP (b, 1)]) from dps).consI
          rfl
        refine if_not (by rw [hne]; rfl) ?_
        have ed : (tolds g ((Tm.bin w m a b).leaves n) ++ rest) = tolds g (a.leaves n) ++ (tolds g (b.leaves (n + 1)) ++ rest) := by rw [Tm.leaves, tolds_app, List.append_assoc]
        rw [ed] at dx0
        refine ⟨_, rfl, ixt (i := 0) hB rfl (tup_at (by show 2 ≤ 1000; decide) fun q2 nq2 => in_t (SqT.of upd_same) rfl rfl (by rw [in2, h1'] <;> rfl) ⟨_, rfl, iteT ?_⟩)⟩
        have e2 := same_new (o := .tup [.str "pi", .str "fun"]) nq2
        refine ⟨_, rfl, ixt (i := 2) (sqs hB e2) rfl ⟨_, rfl, va, a, l, xs, g, n, _, rfl, ha.same e2, wf.2.2.1, by omega, e2 _ _ hl0, DtAll.keep (TK.same e2) _ dx0, fun v1 H3 xs1 m3 hl3 dx3 d1 => ?_⟩⟩
        have hB2 := sqs hB e2
        have t3 : TK K (upd H0 q2 (.tup [.str "pi", .str "fun"])) H3 := m3.tk (e2 _ _ hl0)
        refine ⟨_, rfl, ixt (i := 0) (t3 _ _ hB2) rfl ⟨_, rfl, ixt (i := 1) (t3 _ _ hB2) rfl ⟨_, rfl, _, rfl, ixt (i := 3) (t3 _ _ hB2) rfl ⟨_, rfl, vb, b, l, xs1, g, n + 1, rest, rfl, Dt.keep t3 _ (hb.same e2), wf.2.2.2, by omega, hl3, dx3, fun v2 H4 xs2 m4 hl4 dx4 d2 => ?_⟩⟩⟩⟩
        refine tup_new (K := K) (ds := [.str w, .str m, (a.led g n).pd, (b.led g (n + 1)).pd]) (.cons (.str _) (.cons (.str _) (.cons (Dt.keep (m4.tk hl3) _ d1) (.cons d2 .nil)))) (by show 4 ≤ 1000; decide) fun v3 H5 e5 d3 => ?_
        exact k v3 H5 xs2 ((Mu.same (e0.trans e2)).trans (m3.trans (m4.trans (Mu.same e5)))) (e5 _ _ hl4) (DtAll.keep (TK.same e5) _ dx4) d3
      | letT a b c =>
        obtain ⟨p', va, vb, vc, e, hB, ha, hb, hc⟩ := dt_let hv0
        cases e
        have h1' : ((("pi" : Str) == ("let" : Str)) || (("fun" : Str) == ("let" : Str))) = false := h1
        have dm : max a.depth (max b.depth c.depth) ≤ N := by simp only [Tm.depth] at hd; omega
        have hne : ps.isEmpty = false := by
          obtain ⟨y, ys, rfl, _⟩ := (show DtAll K H1 ps (pdP (a, 0) :: [pdP (b, 0), pdP (c, 1)]) from dps).consI
          rfl
        refine if_not (by rw [hne]; rfl) ?_
        have ed : (tolds g ((Tm.letT a b c).leaves n) ++ rest) = tolds g (a.leaves n) ++ (tolds g (b.leaves n) ++ (tolds g (c.leaves (n + 1)) ++ rest)) := by rw [Tm.leaves, tolds_app, tolds_app, List.append_assoc, List.append_assoc]
        rw [ed] at dx0
        refine ⟨_, rfl, ixt (i := 0) hB rfl (tup_at (by show 2 ≤ 1000; decide) fun q2 nq2 => in_t (SqT.of upd_same) rfl rfl (by rw [in2, h1'] <;> rfl) ⟨_, rfl, iteF ?_⟩)⟩
        have e2 := same_new (o := .tup [.str "pi", .str "fun"]) nq2
        have hB2 := sqs hB e2
        refine ⟨_, rfl, ixt (i := 1) hB2 rfl ⟨_, rfl, va, a, l, xs, g, n, _, rfl, ha.same e2, wf.1, by omega, e2 _ _ hl0, DtAll.keep (TK.same e2) _ dx0, fun v1 H3 xs1 m3 hl3 dx3 d1 => ?_⟩⟩
        have t3 : TK K (upd H0 q2 (.tup [.str "pi", .str "fun"])) H3 := m3.tk (e2 _ _ hl0)
        refine ⟨_, rfl, ixt (i := 0) (t3 _ _ hB2) rfl (eq_f rfl (by rw [show decide (V.str "let" = V.str "app") = false from h3]; rfl) ⟨_, rfl, iteF ?_⟩)⟩
        refine ⟨_, rfl, ixt (i := 2) (t3 _ _ hB2) rfl ⟨_, rfl, vb, b, l, xs1, g, n, _, rfl, Dt.keep t3 _ (hb.same e2), wf.2.1, by omega, hl3, dx3, fun v2 H4 xs2 m4 hl4 dx4 d2 => ?_⟩⟩
        have t4 : TK K H3 H4 := m4.tk hl3
        refine ⟨_, rfl, _, rfl, _, rfl, ixt (i := 3) (t4 _ _ (t3 _ _ hB2)) rfl ⟨_, rfl, vc, c, l, xs2, g, n + 1, rest, rfl, Dt.keep (t3.trans t4) _ (hc.same e2), wf.2.2, by omega, hl4, dx4, fun v3 H5 xs3 m5 hl5 dx5 d3 => ?_⟩⟩
        have t5 : TK K H4 H5 := m5.tk hl4
        refine tup_new (K := K) (ds := [.str "let", (a.led g n).pd, (b.led g n).pd, (c.led g (n + 1)).pd]) (.cons (.str _) (.cons (Dt.keep (t4.trans t5) _ d1) (.cons (Dt.keep t5 _ d2) (.cons d3 .nil)))) (by show 4 ≤ 1000; decide) fun v4 H6 e6 d4 => ?_
        exact k v4 H6 xs3 ((Mu.same (e0.trans e2)).trans (m3.trans (m4.trans (m5.trans (Mu.same e6))))) (e6 _ _ hl5) (DtAll.keep (TK.same e6) _ dx5) d4
      | app a m b =>
        obtain ⟨p', va, vb, e, hB, ha, hb⟩ := dt_app hv0
        cases e
        have h1' : ((("pi" : Str) == ("app" : Str)) || (("fun" : Str) == ("app" : Str))) = false := h1
        have dm : max a.depth b.depth ≤ N := by simp only [Tm.depth] at hd; omega
        have hne : ps.isEmpty = false := by
          obtain ⟨y, ys, rfl, _⟩ := (show DtAll K H1 ps (pdP (a, 0) :: [pdP (b, 0)]) from dps).consI
          rfl
        refine if_not (by rw [hne]; rfl) ?_
        have ed : (tolds g ((Tm.app a m b).leaves n) ++ rest) = tolds g (a.leaves n) ++ (tolds g (b.leaves n) ++ rest) := by rw [Tm.leaves, tolds_app, List.append_assoc]
        rw [ed] at dx0
        refine ⟨_, rfl, ixt (i := 0) hB rfl (tup_at (by show 2 ≤ 1000; decide) fun q2 nq2 => in_t (SqT.of upd_same) rfl rfl (by rw [in2, h1'] <;> rfl) ⟨_, rfl, iteF ?_⟩)⟩
        have e2 := same_new (o := .tup [.str "pi", .str "fun"]) nq2
        have hB2 := sqs hB e2
        refine ⟨_, rfl, ixt (i := 1) hB2 rfl ⟨_, rfl, va, a, l, xs, g, n, _, rfl, ha.same e2, wf.1, by omega, e2 _ _ hl0, DtAll.keep (TK.same e2) _ dx0, fun v1 H3 xs1 m3 hl3 dx3 d1 => ?_⟩⟩
        have t3 : TK K (upd H0 q2 (.tup [.str "pi", .str "fun"])) H3 := m3.tk (e2 _ _ hl0)
        refine ⟨_, rfl, ixt (i := 0) (t3 _ _ hB2) rfl (eq_f rfl (by rw [show decide (V.str "app" = V.str "app") = true from h3]; rfl) ⟨_, rfl, iteT ?_⟩)⟩
        refine ⟨_, rfl, _, rfl, ixt (i := 2) (t3 _ _ hB2) rfl ⟨_, rfl, ixt (i := 3) (t3 _ _ hB2) rfl ⟨_, rfl, vb, b, l, xs1, g, n, rest, rfl, Dt.keep t3 _ (hb.same e2), wf.2.2, by omega, hl3, dx3, fun v2 H4 xs2 m4 hl4 dx4 d2 => ?_⟩⟩⟩
        refine tup_new (K := K) (ds := [.str "app", (a.led g n).pd, .str m, (b.led g n).pd]) (.cons (.str _) (.cons (Dt.keep (m4.tk hl3) _ d1) (.cons (.str _) (.cons d2 .nil)))) (by show 4 ≤ 1000; decide) fun v3 H5 e5 d3 => ?_
        exact k v3 H5 xs2 ((Mu.same (e0.trans e2)).trans (m3.trans (m4.trans (Mu.same e5)))) (e5 _ _ hl4) (DtAll.keep (TK.same e5) _ dx4) d3
      | num w i =>
        obtain rfl := DtAll.nilI (show DtAll K H1 ps [] from dps)
        exact iteT (leafy rfl rfl rfl rfl)
      | name x =>
        obtain rfl := DtAll.nilI (show DtAll K H1 ps [] from dps)
        exact iteT (leafy rfl rfl rfl rfl)
      | count x i =>
        obtain rfl := DtAll.nilI (show DtAll K H1 ps [] from dps)
        exact iteT (leafy rfl rfl rfl rfl)
theorem leaves_leaf : ∀ (t : Tm) (n : Int), ∀ q ∈ t.leaves n, q.1.isLeaf = true
  | .bin w m a b, n, q, h => (List.mem_append.mp h).elim (leaves_leaf a n q) (leaves_leaf b (n + 1) q)
  | .letT a b c, n, q, h => (List.mem_append.mp h).elim (leaves_leaf a n q) fun h => (List.mem_append.mp h).elim (leaves_leaf b n q) (leaves_leaf c (n + 1) q)
  | .app a m b, n, q, h => (List.mem_append.mp h).elim (leaves_leaf a n q) (leaves_leaf b n q)
  | .num w i, n, q, h => by rw [List.mem_singleton.mp h]; rfl
  | .name x, n, q, h => by rw [List.mem_singleton.mp h]; rfl
  | .count x i, n, q, h => by rw [List.mem_singleton.mp h]; rfl
theorem leaves_wf : ∀ (t : Tm) (n : Int), t.wf → ∀ q ∈ t.leaves n, q.1.wf
  | .bin w m a b, n, wf, q, h => (List.mem_append.mp h).elim (leaves_wf a n wf.2.2.1 q) (leaves_wf b (n + 1) wf.2.2.2 q)
  | .letT a b c, n, wf, q, h => (List.mem_append.mp h).elim (leaves_wf a n wf.1 q) fun h => (List.mem_append.mp h).elim (leaves_wf b n wf.2.1 q) (leaves_wf c (n + 1) wf.2.2 q)
  | .app a m b, n, wf, q, h => (List.mem_append.mp h).elim (leaves_wf a n wf.1 q) (leaves_wf b n wf.2.2 q)
  | .num w i, n, wf, q, h => by rw [List.mem_singleton.mp h]; exact wf
  | .name x, n, wf, q, h => by rw [List.mem_singleton.mp h]; exact wf
  | .count x i, n, wf, q, h => by rw [List.mem_singleton.mp h]; exact wf
end
end RS

/-! Closed6: _law_rt_closed. -/
namespace RS
open PySem PySem.Spec PyProof.Rows L2 TL

def gC (u : Tm) (n : Int) : Tm := if u.loose n = true then (if 0 < n then .num "bound" (n - 1) else .num "sort" 1) else u
theorem gC_on {u : Tm} {n : Int} (h : u.loose n = true) : gC u n = if 0 < n then .num "bound" (n - 1) else .num "sort" 1 := if_pos h
theorem gC_off {u : Tm} {n : Int} (h : ¬ u.loose n = true) : gC u n = u := if_neg h
theorem gC_leaf {u : Tm} {n : Int} (lf : u.isLeaf = true) (wf : u.wf) (h0 : 0 ≤ n) (h1 : n ≤ 1000000) : (gC u n).wf ∧ (gC u n).closed n = true ∧ (gC u n).depth = 1 := by
  by_cases h : u.loose n = true
  · rw [gC_on h]
    by_cases p : 0 < n
    · rw [if_pos p]
      refine ⟨.inr ⟨.inr (.inl rfl), by omega, by omega⟩, ?_, rfl⟩
      show (!(decide (("bound" : Str) ∈ (["local", "hole"] : List Str)) || (decide (("bound" : Str) = "bound") && decide (n ≤ n - 1)))) = true
      rw [decide_eq_false (show ¬ n ≤ n - 1 by omega), show decide (("bound" : Str) ∈ (["local", "hole"] : List Str)) = false by decide +kernel]
      simp
    · rw [if_neg p]
      refine ⟨.inl ⟨rfl, by decide, by decide⟩, ?_, rfl⟩
      show (!(decide (("sort" : Str) ∈ (["local", "hole"] : List Str)) || (decide (("sort" : Str) = "bound") && decide (n ≤ 1)))) = true
      rw [show decide (("sort" : Str) ∈ (["local", "hole"] : List Str)) = false by decide +kernel, show decide (("sort" : Str) = "bound") = false by decide +kernel]
      rfl
  · rw [gC_off h]
    refine ⟨wf, ?_, ?_⟩
    · rw [closed_parts, eq_false_of_ne_true h]
      cases u <;> first | rfl | (cases lf)
    · cases u <;> first | rfl | (cases lf)
theorem led_ok : ∀ (t : Tm) (n : Int), t.wf → 0 ≤ n → n + t.depth ≤ 1000 → (t.led gC n).wf ∧ (t.led gC n).closed n = true ∧ (t.led gC n).depth = t.depth
  | .bin w m a b, n, wf, h0, h1 => by
    have hd : (Tm.bin w m a b).depth = 1 + max a.depth b.depth := rfl
    obtain ⟨a1, a2, a3⟩ := led_ok a n wf.2.2.1 h0 (by omega)
    obtain ⟨b1, b2, b3⟩ := led_ok b (n + 1) wf.2.2.2 (by omega) (by omega)
    refine ⟨⟨wf.1, wf.2.1, a1, b1⟩, ?_, ?_⟩
    · show ((a.led gC n).closed n && (b.led gC (n + 1)).closed (n + 1)) = true
      rw [a2, b2]; rfl
    · show 1 + max (a.led gC n).depth (b.led gC (n + 1)).depth = _
      rw [a3, b3, hd]
  | .letT a b c, n, wf, h0, h1 => by
    have hd : (Tm.letT a b c).depth = 1 + max a.depth (max b.depth c.depth) := rfl
    obtain ⟨a1, a2, a3⟩ := led_ok a n wf.1 h0 (by omega)
    obtain ⟨b1, b2, b3⟩ := led_ok b n wf.2.1 h0 (by omega)
    obtain ⟨c1, c2, c3⟩ := led_ok c (n + 1) wf.2.2 (by omega) (by omega)
    refine ⟨⟨a1, b1, c1⟩, ?_, ?_⟩
    · show ((a.led gC n).closed n && ((b.led gC n).closed n && (c.led gC (n + 1)).closed (n + 1))) = true
      rw [a2, b2, c2]; rfl
    · show 1 + max (a.led gC n).depth (max (b.led gC n).depth (c.led gC (n + 1)).depth) = _
      rw [a3, b3, c3, hd]
  | .app f m x, n, wf, h0, h1 => by
    have hd : (Tm.app f m x).depth = 1 + max f.depth x.depth := rfl
    obtain ⟨a1, a2, a3⟩ := led_ok f n wf.1 h0 (by omega)
    obtain ⟨b1, b2, b3⟩ := led_ok x n wf.2.2 h0 (by omega)
    refine ⟨⟨a1, wf.2.1, b1⟩, ?_, ?_⟩
    · show ((f.led gC n).closed n && (x.led gC n).closed n) = true
      rw [a2, b2]; rfl
    · show 1 + max (f.led gC n).depth (x.led gC n).depth = _
      rw [a3, b3, hd]
  | .num w k, n, wf, h0, h1 => gC_leaf rfl wf h0 (by have := (Tm.num w k).depth_pos; omega)
  | .name x, n, wf, h0, h1 => gC_leaf rfl wf h0 (by have := (Tm.name x).depth_pos; omega)
  | .count x k, n, wf, h0, h1 => gC_leaf rfl wf h0 (by have := (Tm.count x k).depth_pos; omega)
theorem loose_rd {K : PySem.W.Frag} {σ : L2.St} {p : Addr} {u : Tm} {n : Int} {H : Hp} {Q : VK} (hσ : σ[4]? = some (some (.ref p))) (hn : σ[5]? = some (some (.int n))) (wf : u.wf) (du : Dt K H (.ref p) u.pd) (k : ∀ H', Same H H' → Q (.bl (u.loose n)) H') :
    tOrV (tOp (rInU K false) (tOp (rIx K) (tVar 4) (tC (.int 0))) (tTupN (tCons (tC (.str "local")) (tCons (tC (.str "hole")) tNil)))) (tAndV (tOp (rEqU K false) (tOp (rIx K) (tVar 4) (tC (.int 0))) (tC (.str "bound"))) (tOp (rI0 fun i j => .bl (decide (i ≥ j))) (tOp (rIx K) (tVar 4) (tC (.int 1))) (tVar 5))) σ H Q := by
  rw [loose_eq wf] at k
  obtain ⟨p0, ws, e, hT⟩ := dt_word du
  cases e
  refine ⟨_, hσ, ixt (i := 0) hT rfl (tup_at (by show 2 ≤ 1000; decide) fun q1 nq => in_t (SqT.of upd_same) rfl rfl (b := decide (u.word ∈ (["local", "hole"] : List Str))) ((Bool.false_xor _).trans (inV_str u.word ["local", "hole"])) ⟨_, rfl, ite2 (fun hA => ?_) (fun hA => ?_)⟩)⟩
  · rw [hA] at k
    exact k _ (same_new nq)
  · rw [eq_false_of_ne_true hA, Bool.false_or] at k
    have e1 := same_new (o := .tup [V.str "local", V.str "hole"]) nq
    refine ⟨_, hσ, ixt (i := 0) (sqs hT e1) rfl (eq_str (Bool.false_xor _) ⟨_, rfl, ite2 (fun hb => ?_) (fun hb => ?_)⟩)⟩
    · obtain ⟨kk, rfl⟩ := bound_num wf (of_decide_eq_true hb)
      rw [hb, Bool.true_and] at k
      obtain ⟨p', e, hB⟩ := dt_num du
      cases e
      exact ⟨_, hσ, ixt (i := 1) (sqs hB e1) rfl ⟨_, hn, _, _, rfl, rfl, k _ e1⟩⟩
    · rw [eq_false_of_ne_true hb, Bool.false_and] at k
      exact k _ e1
def spClosed (K : PySem.W.Frag) (N : Nat) : Sp := fun vs H Q _ => ∃ (d g c : Addr) (T : Nat) (deep : Int), vs = [.ref d, .int deep] ∧ Stt H d g c T ∧ T + cost N ≤ topT ∧ 1 ≤ deep ∧ deep ≤ N ∧
  ∀ (t : Tm) v H', Ch d g H H' → Stt H' d g c (T + cost N) → Dt K H' v t.pd → t.wf → t.closed 0 = true → (t.depth : Int) ≤ deep → Q v H'
section
variable {P : Program} {w : World} {K : PySem.W.Frag} {mg : Str → Option Value} {base : Heap}
theorem sc_law_rt_closed : FnScope ["state", "deep", "term", "told", "leaf", "ahead", "loose"] ["state", "deep"] (defScope s_law_rt_closed) := ⟨rfl, rfl, rfl, by decide +kernel, rfl, by decide +kernel, by decide +kernel⟩
theorem ok_closed {f : Addr} {fd : FuncData} {N : Nat} (hN : N ≤ 10) (F : Fun K "_law_rt_closed" "_law_rt_closed" s_law_rt_closed f fd) (D_law_rt_term : Df P w K mg base "_law_rt_term" (N + 3) ["state", "deep", "ahead"] (spTerm K N))
    (D_law_rt_leaves : Df P w K mg base "_law_rt_leaves" (N + 1) ["term", "ahead"] (spLeaves K N)) (D_law_rt_with : Df P w K mg base "_law_rt_with" (N + 1) ["term", "leaves"] (spWith K N)) : FnOk P w K mg base CX0 (N + 4) f fd ["state", "deep"] (spClosed K N) := by
  refine F.ok sc_law_rt_closed (fun vs H Q E h => ?_) (fun cdv A outer s H vs Q E hr h => ?_)
  · obtain ⟨d, g, c, T, deep, rfl, _⟩ := h; rfl
  · obtain ⟨d, g, c, T, deep, rfl, S, hT, d1, dN, k⟩ := h
    have nd := sc_law_rt_closed.nd
    refine ⟨_, (pss_cons (ps_set (i := 2) nd rfl (Or.inl rfl) (pe_df D_law_rt_term hr (by omega) (pa_cons (pv 0) (pa_cons (pv 1) (pa_cons pe_int pa_nil)))))
      (pss_cons (ps_set (i := 3) nd rfl (Or.inl rfl) (pe_lstN pa_nil))
      (pss_cons (ps_for PassesOwn.never rfl (pi_seq (pe_df D_law_rt_leaves hr (by omega) (pa_cons (pv 2) (pa_cons pe_int pa_nil)))) (pg_tup rfl (pgs_cons (pg_name (i := 4) nd rfl (Or.inl rfl)) (pgs_cons (pg_name (i := 5) nd rfl (Or.inl rfl)) pgs_nil)))
        (pss_cons (ps_set (i := 6) nd rfl (Or.inl rfl) (pe_or (pe_cmpR uIn (pe_ix ix_seq (pv 4) pe_int (fun _ _ => rfl)) (pe_tupN (pa_cons pe_str (pa_cons pe_str pa_nil))) (by rfl)) (pe_one (pe_and (pe_cmpR (uEq hr.units) (pe_ix ix_seq (pv 4) pe_int (fun _ _ => rfl)) pe_str (nomark _)) (pe_one (pe_cmpR op_ge (pe_ix ix_seq (pv 4) pe_int (fun _ _ => rfl)) (pv 5) (nomark _)))))))
        (pss_one (ps_expr (pe_bm PySem.F.plainAttrs_list PySem.F.slot_list_append PySem.F.type_list_append mt_append (pv 3) (pa_cons (pe_ifExp (pt_val (pv 6)) (pe_ifExp (pt_cmpR op_gt (pv 5) pe_int (nomark _)) (pe_tupN (pa_cons pe_str (pa_cons (pe_op op_sub (pv 5) pe_int) pa_nil))) (pe_tupN (pa_cons pe_str (pa_cons pe_int pa_nil)))) (pv 4)) pa_nil))))))
      (pss_one (ps_ret (pe_df D_law_rt_with hr (by omega) (pa_cons (pv 2) (pa_cons (pv 3) pa_nil)))))))), ?_⟩
    refine ⟨_, rfl, _, rfl, d, g, c, T, deep, 0, rfl, S, hT, d1, dN, by decide, by omega, fun t v H1 C1 S1 hv wf dp => ?_⟩
    refine lst_new (Nat.zero_le _) fun lt nlt => ?_
    have e1 := same_new (o := .lst []) nlt
    have hdp : t.depth ≤ N := by omega
    have hnd : t.nodes ≤ 100000 := by
      have h1 := nodes_le t
      have h2 := words_le t
      have h3 := wmax_mono (Nat.le_trans hdp hN)
      have h4 : wmax 10 = 59048 := rfl
      omega
    refine ⟨_, rfl, v, t, 0, rfl, hv.same e1, wf, by omega, hnd, fun ll zs H2 e2 nll hll dll => ⟨ll, rfl, .inl ⟨⟨_, SqL.of hll⟩, ?_⟩⟩⟩
    have lt2 : H2 lt = some (.lst []) := e2 _ _ upd_same
    have ne : ll ≠ lt := fun z => by rw [z, upd_same] at nll; cases nll
    have z1 : ∀ {H3 : Hp}, Mu lt H2 H3 → Same H1 H3 := fun m b o h => m b o (ne_of_none h nlt) (e2 _ _ (e1 _ _ h))
    have lz : zs.length = (t.leaves 0).length := by rw [dll.length, List.length_map]
    have l1 := t.leaves_len 0
    refine for_list (K := K) (a := ll) (xs := zs) (fun i σ H3 => ∃ (v4 v5 v6 : Option V) (ws : List V), σ = [some (.ref d), some (.int deep), some v, some (.ref lt), v4, v5, v6] ∧ Mu lt H2 H3 ∧ H3 lt = some (.lst ws) ∧ DtAll K H3 ws ((tolds gC ((t.leaves 0).take i)).map Tm.pd))
      ⟨none, none, none, [], rfl, fun _ _ _ h => h, lt2, .nil⟩ (fun i σ H3 _ ⟨_, _, _, _, _, m, _⟩ => SqL.of (m _ _ ne hll)) ?_ ?_
    · rintro i x σ H3 hx ⟨v4, v5, v6, ws, rfl, m3, hl3, dw⟩
      obtain ⟨u, m, p, vu, hu, rfl, hT, du⟩ := parts_at (DtAll.keep (m3.tk lt2) _ dll) hx
      have hsz : ws.length < sizeLine := by
        rw [dw.length, List.length_map, tolds, List.length_map, List.length_take, sizeLine_eq]; omega
      have lf : u.isLeaf = true := leaves_leaf t 0 _ (List.mem_of_getElem? hu)
      have wfu : u.wf := leaves_wf t 0 wf _ (List.mem_of_getElem? hu)
      have step : ∀ (y : V) (H4 : Hp), Same H3 H4 → Dt K H4 y ((gC) u m).pd → ∃ ws', Mu lt H2 (upd H4 lt (.lst (ws ++ [y]))) ∧ (upd H4 lt (.lst (ws ++ [y]))) lt = some (.lst ws') ∧ DtAll K (upd H4 lt (.lst (ws ++ [y]))) ws' ((tolds gC ((t.leaves 0).take (i + 1))).map Tm.pd) := fun y H4 e4 dy => by
        refine ⟨ws ++ [y], m3.trans ((Mu.same e4).trans fun b o n h => by rw [upd_ne n]; exact h), upd_same, ?_⟩
        rw [take_snoc hu, tolds_app, List.map_append]
        exact DtAll.append (DtAll.keep ((TK.same e4).trans (TK.lst (e4 _ _ hl3))) _ dw) (.cons (Dt.keep (TK.lst (e4 _ _ hl3)) _ dy) .nil)
      obtain ⟨p', xs, rfl, hp⟩ := dt_word du
      refine ⟨p, _, rfl, hT, rfl, _, _, rfl, .int m, _, rfl, rfl, ?_⟩
      refine loose_rd (K := K) rfl rfl wfu du fun H4 e4 => ?_
      refine ⟨_, rfl, .inl ⟨rfl, _, .inl (.inl (e4 _ _ hl3))⟩, _, rfl, _, rfl, ite2 (fun hc => ?_) (fun hc => ?_)⟩
      · have e5 := gC_on hc
        refine ⟨_, rfl, _, _, rfl, rfl, _, rfl, ite2 (fun hp0 => ?_) (fun hp0 => ?_)⟩
        · rw [if_pos (of_decide_eq_true hp0)] at e5
          refine ⟨_, rfl, _, _, rfl, rfl, tup_new (K := K) (ds := [.str "bound", .int (m - 1)]) (.cons (.str _) (.cons (.int _) .nil)) (by show 2 ≤ 1000; decide) fun y H5 e6 d4 => ?_⟩
          obtain ⟨ws', q1, q2, q3⟩ := step y H5 (e4.trans e6) (by rw [e5]; exact d4)
          exact ⟨lt, ws, _, rfl, rfl, (e4.trans e6) _ _ hl3, hsz, _, _, _, ws', rfl, q1, q2, q3⟩
        · rw [if_neg (fun z => hp0 (decide_eq_true z))] at e5
          refine tup_new (K := K) (ds := [.str "sort", .int 1]) (.cons (.str _) (.cons (.int _) .nil)) (by show 2 ≤ 1000; decide) fun y H5 e6 d4 => ?_
          obtain ⟨ws', q1, q2, q3⟩ := step y H5 (e4.trans e6) (by rw [e5]; exact d4)
          exact ⟨lt, ws, _, rfl, rfl, (e4.trans e6) _ _ hl3, hsz, _, _, _, ws', rfl, q1, q2, q3⟩
      · have e5 := gC_off hc
        obtain ⟨ws', q1, q2, q3⟩ := step _ H4 e4 (by rw [e5]; exact du.same e4)
        exact ⟨_, rfl, lt, ws, _, rfl, rfl, e4 _ _ hl3, hsz, _, _, _, ws', rfl, q1, q2, q3⟩
    · rintro σ H3 ⟨v4, v5, v6, ws, rfl, m3, hl3, dw⟩
      rw [lz, List.take_length] at dw
      obtain ⟨w1, w2, w3⟩ := led_ok t 0 wf (by decide) (by omega)
      have S2 : Stt H3 d g c (T + cost N) := S1.keep (z1 m3)
      refine ⟨_, rfl, _, rfl, v, t, lt, ws, gC, 0, [], rfl, hv.same (z1 m3), wf, by omega, hl3, by rw [List.append_nil]; exact dw, fun v' H' xs' m5 hl5 _ d5 => ?_⟩
      exact k _ v' H' (C1.ofSame (z1 (m3.trans m5))) (S1.keep (z1 (m3.trans m5))) d5 w1 w2 (by rw [w3]; exact dp)
end
end RS

/-! Form6: is_tree, is_function, is_kind, is_declaration. -/
namespace RS
open PySem PySem.Spec PyProof.Rows L2 TL NdefX

def sumR (ts : List Tr) : Nat := (ts.map fun t => t.rows.length).sum
theorem sumR_app (a b : List Tr) : sumR (a ++ b) = sumR a + sumR b := by unfold sumR; rw [List.map_append, List.sum_append]
theorem sumR_one (t : Tr) : sumR [t] = t.rows.length := by unfold sumR; simp
theorem rows_pos (t : Tr) : 1 ≤ t.rows.length := by cases t <;> (unfold Tr.rows; simp)
theorem len_sumR : ∀ ts : List Tr, ts.length ≤ sumR ts
  | [] => Nat.le_refl _
  | t :: ts => by have := len_sumR ts; have := rows_pos t; unfold sumR at *; rw [List.map_cons, List.sum_cons, List.length_cons]; omega
theorem sumR_rowsL (bs : List Tr) : (rowsL bs).length = sumR bs := by
  rw [rowsL_map, List.length_flatMap]; rfl
structure rTree (K : PySem.W.Frag) (vs : List V) (H : Hp) (Q : VK) : Prop where
  ex : ∃ (v : V) (t : Tr), vs = [v] ∧ Dt K H v t.pd ∧ t.wf ∧ t ≠ .barred ∧ t.rows.length ≤ 1000 ∧ ∀ H', Same H H' → Q (.bl true) H'
def spTree (K : PySem.W.Frag) : Sp := fun vs H Q _ => rTree K vs H Q
/-- no declaration -/
def badD (K : PySem.W.Frag) (H : Hp) (v : V) : Prop := (∃ t, TyX K H v (.type t) ∧ L2.kitB t "tuple" = some false) ∨ ∃ a xs, v = .ref a ∧ SqT K H a xs ∧ xs.length ≤ 3
structure rDecl (K : PySem.W.Frag) (vs : List V) (H : Hp) (Q : VK) : Prop where
  ex : ∃ v, vs = [v] ∧ ((∃ d : Dcl, Dt K H v d.pd ∧ d.wf ∧ d.rows.length ≤ 1000 ∧ ∀ H', Same H H' → Q (.bl true) H') ∨ (badD K H v ∧ Q (.bl false) H))
def spDecl (K : PySem.W.Frag) : Sp := fun vs H Q _ => rDecl K vs H Q
structure rKind (K : PySem.W.Frag) (vs : List V) (H : Hp) (Q : VK) : Prop where
  ex : ∃ v, vs = [v] ∧ ((∃ x many ty mk, Dt K H v (Dcl.kind x many ty mk).pd ∧ (Dcl.kind x many ty mk).wf ∧ mk.length ≤ 1000 ∧ ∀ H', Same H H' → Q (.bl true) H') ∨ (badD K H v ∧ Q (.bl false) H) ∨ ∃ a xs, v = .ref a ∧ SqT K H a xs ∧ xs.length = 7 ∧ Q (.bl false) H)
def spKind (K : PySem.W.Frag) : Sp := fun vs H Q _ => rKind K vs H Q
structure rFun (K : PySem.W.Frag) (vs : List V) (H : Hp) (Q : VK) : Prop where
  ex : ∃ v, vs = [v] ∧ ((∃ x ty many a tree shut, Dt K H v (Dcl.fn x ty many a tree shut).pd ∧ (Dcl.fn x ty many a tree shut).wf ∧ tree.rows.length ≤ 1000 ∧ ∀ H', Same H H' → Q (.bl true) H') ∨ (badD K H v ∧ Q (.bl false) H))
def spFun (K : PySem.W.Frag) : Sp := fun vs H Q _ => rFun K vs H Q
theorem ne_len {n : Nat} {m : Int} {b : Bool} (h : (!decide ((n : Int) = m)) = b) : xor true (decide (V.int (n : Int) = V.int m)) = b := by
  rw [← h, Bool.true_xor]
  congr 1
  rw [Bool.eq_iff_iff]
  simp
theorem numB_nat {n : Nat} {hi : Int} (h : (n : Int) ≤ hi) (h2 : n < 10 ^ 18) : numberB 0 hi (.int (n : Nat)) = true := by
  unfold numberB wholeB
  simp
  omega
section
variable {P : Program} {w : World} {K : PySem.W.Frag} {mg : Str → Option Value} {base : Heap}
theorem sc_is_tree : FnScope ["value", "left", "one"] ["value"] (defScope s_is_tree) := ⟨rfl, rfl, rfl, by decide +kernel, rfl, by decide +kernel, by decide +kernel⟩
theorem ok_is_tree {f : Addr} {fd : FuncData} {t1 : Tok} (F : Fun K "is_tree" "is_tree" s_is_tree f fd) (n_isinstance : mg "isinstance" = none) (n_tuple : mg "tuple" = none) (n_str : mg "str" = none) (n_len : mg "len" = none) (n_list : mg "list" = none) (g_MOST_PLACES : mg "MOST_PLACES" = some (.int ci_MOST_PLACES t1))
    (Dis_term : Df P w K mg base "is_term" 4 ["value"] (spTerm4 K)) (Dis_number : Df P w K mg base "is_number" 2 ["value", "least", "most"] (spNumber K)) : FnOk P w K mg base CX0 5 f fd ["value"] (spTree K) := by
  refine F.ok sc_is_tree (fun vs H Q E h => ?_) (fun cdv A outer s H vs Q E hr h => ?_)
  · obtain ⟨v, t, rfl, _⟩ := h.ex; rfl
  · obtain ⟨v, t, rfl, hv, wf, hnb, hn, k⟩ := h.ex
    clear h
    have nd := sc_is_tree.nd
    refine ⟨_, (pss_cons (ps_set (i := 1) nd rfl (Or.inl rfl) (pe_lstN (pa_cons (pv 0) pa_nil)))
      (pss_cons (ps_while PassesOwn.never (pt_cmpR (uNe hr.units) (pv 1) (pe_lstN pa_nil) (nomark _))
        (pss_cons (ps_set (i := 2) nd rfl (Or.inl rfl) (pe_bm0 PySem.F.plainAttrs_list PySem.F.slot_list_pop PySem.F.type_list_pop mt_pop (pv 1)))
        (pss_cons (ps_if (pt_cmpR op_isN (pv 2) pe_non (nomark _))
          (pss_one ps_continue)
          pss_nil)
        (pss_cons (ps_if (pt_w (PW.pt (pw_or (pt_not (pt_val (pe_callB call_isU (by rfl) n_isinstance (by decide +kernel) (pa_cons (pv 2) (pa_cons (pe_bltn (v := .ty "tuple") rfl n_tuple (by decide +kernel) rfl) pa_nil))))) (pw_or (pt_cmpR (op_eqT0 hr.units) (pv 2) (pe_tupN pa_nil) (nomark _)) (pw_or1 (pt_not (pt_val (pe_callB call_isU (by rfl) n_isinstance (by decide +kernel) (pa_cons (pe_ix ix_seq (pv 2) pe_int (fun _ _ => rfl)) (pa_cons (pe_bltn (v := .ty "str") rfl n_str (by decide +kernel) rfl) pa_nil))))))))))
          (pss_one (ps_ret pe_bl))
          pss_nil)
        (pss_one (ps_if (pt_w (PW.pt (pw_and (pt_cmpR (uEq hr.units) (pe_ix ix_seq (pv 2) pe_int (fun _ _ => rfl)) pe_str (nomark _)) (pw_and1 (pt_cmpR (uEq hr.units) (pe_callB uLen (by rfl) n_len (by decide +kernel) (pa_cons (pv 2) pa_nil)) pe_int (nomark _))))))
          (pss_one (ps_if (pt_not (pt_val (pe_df Dis_term hr (by omega) (pa_cons (pe_ix ix_seq (pv 2) pe_int (fun _ _ => rfl)) pa_nil))))
            (pss_one (ps_ret pe_bl))
            pss_nil))
          (pss_one (ps_if (pt_w (PW.pt (pw_and (pt_cmpR (uEq hr.units) (pe_ix ix_seq (pv 2) pe_int (fun _ _ => rfl)) pe_str (nomark _)) (pw_and (pt_cmpR (uEq hr.units) (pe_callB uLen (by rfl) n_len (by decide +kernel) (pa_cons (pv 2) pa_nil)) pe_int (nomark _)) (pw_and1 (pt_val (pe_callB call_isU (by rfl) n_isinstance (by decide +kernel) (pa_cons (pe_ix ix_seq (pv 2) pe_int (fun _ _ => rfl)) (pa_cons (pe_bltn (v := .ty "tuple") rfl n_tuple (by decide +kernel) rfl) pa_nil)))))))))
            (pss_cons (ps_if (pt_not (pt_val (pe_df Dis_number hr (by omega) (pa_cons (pe_ix ix_seq (pv 2) pe_int (fun _ _ => rfl)) (pa_cons pe_int (pa_cons (pe_glob (v := .int ci_MOST_PLACES) rfl g_MOST_PLACES ⟨_, rfl⟩) pa_nil))))))
              (pss_one (ps_ret pe_bl))
              pss_nil)
            (pss_one (ps_set (i := 1) nd rfl (Or.inl rfl) (pe_op uAdd (pv 1) (pe_callTy call_list_of (by rfl) n_list (by decide +kernel) (pa_cons (pe_ix ix_seq (pv 2) pe_int (fun _ _ => rfl)) pa_nil))))))
            (pss_one (ps_ret pe_bl))))))))))
      (pss_one (ps_ret (pe_cmpR op_notN (pv 0) pe_non (nomark _)))))), ?_⟩
    refine ⟨_, rfl, lst_new (xs := [v]) (Nat.le_add_left 1 999) fun l nl => ?_⟩
    have hvn : ¬ v = .non := by
      cases t with
      | barred => exact absurd rfl hnb
      | leaf t => unfold Tr.pd at hv; obtain ⟨a, xs, rfl, _⟩ := hv.tupI; exact fun q => by cases q
      | split p bs => unfold Tr.pd at hv; obtain ⟨a, xs, rfl, _⟩ := hv.tupI; exact fun q => by cases q
    refine ⟨fun m σ H1 => ∃ (l : Addr) (vals : List V) (ts : List Tr) (x2 : Option V), σ = [some v, some (.ref l), x2] ∧ H l = none ∧ H1 l = some (.lst vals) ∧ Same H H1 ∧ DtAll K H1 vals (ts.map Tr.pd) ∧ (∀ t ∈ ts, t.wf) ∧ sumR ts ≤ 1000 ∧ m = sumR ts,
      ⟨_, l, [v], [t], _, rfl, nl, upd_same, same_new nl, .cons (hv.same (same_new nl)) .nil, fun t' ht' => by rw [List.mem_singleton.mp ht']; exact wf, by rw [sumR_one]; exact hn, rfl⟩, ?_⟩
    rintro m σ H1 ⟨l, vals, ts, x2, rfl, nl, hl, e1, hA, wfs, hsum, rfl⟩
    refine ⟨_, rfl, lst_new (Nat.zero_le _) fun p np => eq_n (SqL.of ((upd_ne (ne_of_none hl np)).trans hl)) (SqL.of upd_same) (b := !vals.isEmpty) (by cases vals <;> rfl) ⟨_, rfl, ?_⟩⟩
    have e2 : Same H1 (upd H1 p (.lst [])) := same_new np
    replace hl := e2 _ _ hl
    replace hA := DtAll.keep (TK.same (K := K) e2) _ hA
    replace e2 := e1.trans e2
    clear e1
    generalize upd H1 p (.lst []) = H2 at e2 hl hA ⊢
    rcases List.eq_nil_or_concat ts with rfl | ⟨ti, tl, rfl⟩
    · obtain rfl := hA.nilI
      refine iteF ?_
      refine ⟨_, rfl, rfl, ?_⟩
      rw [decide_eq_false hvn]
      exact k _ e2
    · rw [List.concat_eq_append] at hA wfs hsum ⊢
      rw [List.map_append] at hA
      obtain ⟨ys, y, rfl, dy, du⟩ := hA.snocI
      have hbe : (!(ys ++ [y]).isEmpty) = true := by cases ys <;> rfl
      rw [hbe]
      rw [sumR_app, sumR_one] at hsum ⊢
      have wfl : tl.wf := wfs tl (by simp)
      have wfi : ∀ t ∈ ti, t.wf := fun t ht => wfs t (by simp [ht])
      have hpos := rows_pos tl
      refine iteT ⟨_, fun _ _ h => h, ?_⟩
      refine ⟨_, rfl, pop_last hl ?_⟩
      have e3 : Same H (upd H2 l (.lst ys)) := same_mut e2 nl
      have hl3 : upd H2 l (.lst ys) l = some (.lst ys) := upd_same
      have du3 := Dt.keep (TK.lst (o := .lst ys) hl) _ du
      have dy3 := DtAll.keep (K := K) (TK.lst (o := .lst ys) hl) _ dy
      generalize upd H2 l (.lst ys) = H3 at e3 hl3 du3 dy3 ⊢
      clear e2 hl dy du
      cases tl with
      | barred =>
        unfold Tr.pd at du3
        cases du3
        refine ⟨_, rfl, rfl, _, rfl, iteT ?_⟩
        exact ⟨sumR ti, by omega, l, ys, ti, _, rfl, nl, hl3, e3, dy3, wfi, by omega, rfl⟩
      | leaf u =>
        unfold Tr.pd at du3
        obtain ⟨a, xs, rfl, hT, hD⟩ := du3.tupI
        obtain ⟨v1, r1, rfl, d1, hD⟩ := hD.consI
        obtain ⟨v2, r2, rfl, d2, hD⟩ := hD.consI
        obtain rfl := hD.nilI
        obtain rfl := d1.strI
        have wfu : tmOk u := by unfold Tr.wf at wfl; exact wfl
        have hun := nodes_le u
        refine ⟨_, rfl, rfl, _, rfl, iteF ?_⟩
        refine ⟨⟨_, rfl, isi_u (sqT_tyx hT) (by decide +kernel) ⟨true, rfl, iteF ⟨_, rfl, tup_at (Nat.zero_le _) fun p np => ⟨a, p, _, rfl, rfl, TK.new np _ _ hT, SqT.of upd_same, _, rfl, ?_⟩⟩⟩⟩⟩
        have e4 : Same H3 (upd H3 p (.tup [])) := same_new np
        have hT4 := sqs hT e4
        generalize upd H3 p (.tup []) = H4 at e4 hT4 ⊢
        refine iteF ⟨_, rfl, ixt (i := 0) hT4 rfl (isi_u (.base (.str _)) (by decide +kernel) ⟨true, rfl, iteF ?_⟩)⟩
        refine w_val true (.and (a := true) (b := true) (fun Q' q => ⟨_, rfl, ixt (i := 0) hT4 rfl (eq_str (b := true) (by decide +kernel) ⟨_, rfl, q⟩)⟩) fun _ Q' q => ⟨_, rfl, _, 2, rfl, .inr ⟨_, hT4, rfl⟩, eq_f (b := true) rfl (by rfl) ⟨_, rfl, q⟩⟩) (iteT ?_)
        refine ⟨_, rfl, ixt (i := 1) hT4 rfl ⟨.inl ⟨_, u, rfl, d2.same e4, wfu.1, by have := wfu.2; omega, fun H5 e5 => ⟨_, rfl, iteF ?_⟩⟩⟩⟩
        have e6 := e4.trans e5
        exact ⟨sumR ti, by omega, l, ys, ti, _, rfl, nl, e6 _ _ hl3, e3.trans e6, DtAll.keep (TK.same e6) _ dy3, wfi, by omega, rfl⟩
      | split p0 bs =>
        unfold Tr.pd at du3
        obtain ⟨a, xs, rfl, hT, hD⟩ := du3.tupI
        obtain ⟨v1, r1, rfl, d1, hD⟩ := hD.consI
        obtain ⟨v2, r2, rfl, d2, hD⟩ := hD.consI
        obtain ⟨v3, r3, rfl, d3, hD⟩ := hD.consI
        obtain rfl := hD.nilI
        obtain rfl := d1.strI
        obtain rfl := d2.intI
        have wfb : p0 ≤ 1000000 ∧ bs.length ≤ 1000000 ∧ wfL bs := by unfold Tr.wf at wfl; exact wfl
        have hrl : (Tr.split p0 bs).rows.length = sumR bs + 1 := by rw [Tr.rows, List.length_cons, sumR_rowsL]
        rw [hrl] at hsum ⊢
        refine ⟨_, rfl, rfl, _, rfl, iteF ?_⟩
        refine ⟨⟨_, rfl, isi_u (sqT_tyx hT) (by decide +kernel) ⟨true, rfl, iteF ⟨_, rfl, tup_at (Nat.zero_le _) fun p np => ⟨a, p, _, rfl, rfl, TK.new np _ _ hT, SqT.of upd_same, _, rfl, ?_⟩⟩⟩⟩⟩
        have e4 : Same H3 (upd H3 p (.tup [])) := same_new np
        have hT4 := sqs hT e4
        generalize upd H3 p (.tup []) = H4 at e4 hT4 ⊢
        refine iteF ⟨_, rfl, ixt (i := 0) hT4 rfl (isi_u (.base (.str _)) (by decide +kernel) ⟨true, rfl, iteF ?_⟩)⟩
        refine w_val false (.and (a := false) (b := false) (fun Q' q => ⟨_, rfl, ixt (i := 0) hT4 rfl (eq_str (b := false) (by decide +kernel) ⟨_, rfl, q⟩)⟩) (fun z => nomatch z)) (iteF ?_)
        have d34 := d3.same e4
        rw [pdL_map] at d34
        obtain ⟨a3, xs3, rfl, hT3, hD3⟩ := d34.tupI
        refine w_val true (.and (a := true) (b := true) (fun Q' q => ⟨_, rfl, ixt (i := 0) hT4 rfl (eq_str (b := true) (by decide +kernel) ⟨_, rfl, q⟩)⟩) fun _ => .and (a := true) (b := true) (fun Q' q => ⟨_, rfl, _, 3, rfl, .inr ⟨_, hT4, rfl⟩, eq_f (b := true) rfl (by rfl) ⟨_, rfl, q⟩⟩) fun _ Q' q => ⟨_, rfl, ixt (i := 2) hT4 rfl (isi_u (sqT_tyx hT3) (by decide +kernel) ⟨true, rfl, q⟩)⟩) (iteT ?_)
        refine ⟨_, rfl, ixt (i := 1) hT4 rfl ⟨_, _, _, _, rfl, .int _, _, rfl, ?_⟩⟩
        rw [numB_nat (by show (p0 : Int) ≤ 1000000; omega) (by omega)]
        refine iteF ?_
        refine ⟨_, rfl, _, rfl, ixt (i := 2) hT4 rfl ⟨a3, xs3, rfl, .inr hT3, fun l2 nl2 => ?_⟩⟩
        have hl4 := e4 _ _ hl3
        have l1 : ys.length = ti.length := by rw [dy3.length, List.length_map]
        have l2' : xs3.length = bs.length := by rw [hD3.length, List.length_map]
        have l3 := len_sumR ti
        have l4 := len_sumR bs
        refine add_l ((same_new nl2) _ _ hl4) upd_same (by rw [sizeLine_eq]; omega) fun r nr => ?_
        have e5 : Same H3 (upd (upd H4 l2 (.lst xs3)) r (.lst (ys ++ xs3))) := e4.trans ((same_new nl2).trans (same_new nr))
        have e6 : Same H4 (upd (upd H4 l2 (.lst xs3)) r (.lst (ys ++ xs3))) := (same_new nl2).trans (same_new nr)
        refine ⟨sumR ti + sumR bs, by omega, r, ys ++ xs3, ti ++ bs, _, rfl, ?_, upd_same, e3.trans e5, ?_, ?_, ?_, ?_⟩
        · exact (e3.trans (e4.trans (same_new nl2))).free nr
        · rw [List.map_append]
          exact (DtAll.keep (TK.same e5) _ dy3).append (DtAll.keep (TK.same e6) _ hD3)
        · intro t ht
          rcases List.mem_append.mp ht with h | h
          · exact wfi t h
          · exact (wfL_iff _).mp wfb.2.2 t h
        · rw [sumR_app]; omega
        · rw [sumR_app]
theorem sc_is_kind : FnScope ["value", "maker"] ["value"] (defScope s_is_kind) := ⟨rfl, rfl, rfl, by decide +kernel, rfl, by decide +kernel, by decide +kernel⟩
theorem ok_is_kind {f : Addr} {fd : FuncData} {t1 : Tok} (F : Fun K "is_kind" "is_kind" s_is_kind f fd) (n_isinstance : mg "isinstance" = none) (n_tuple : mg "tuple" = none) (n_len : mg "len" = none) (g_MOST_ARGUMENTS : mg "MOST_ARGUMENTS" = some (.int ci_MOST_ARGUMENTS t1))
    (Dis_term : Df P w K mg base "is_term" 4 ["value"] (spTerm4 K)) (Dis_number : Df P w K mg base "is_number" 2 ["value", "least", "most"] (spNumber K)) (Dis_capital : Df P w K mg base "is_capital" 2 ["value"] spCap) (Dis_closed : Df P w K mg base "is_closed" 2 ["term"] (spClo K)) : FnOk P w K mg base CX0 5 f fd ["value"] (spKind K) := by
  refine F.ok sc_is_kind (fun vs H Q E h => ?_) (fun cdv A outer s H vs Q E hr h => ?_)
  · obtain ⟨v, rfl, _⟩ := h.ex; rfl
  · obtain ⟨v, rfl, hh⟩ := h.ex
    have nd := sc_is_kind.nd
    refine ⟨_, (pss_cons (ps_if (pt_w (PW.pt (pw_or (pt_not (pt_val (pe_callB call_isU (by rfl) n_isinstance (by decide +kernel) (pa_cons (pv 0) (pa_cons (pe_bltn (v := .ty "tuple") rfl n_tuple (by decide +kernel) rfl) pa_nil))))) (pw_or (pt_cmpR (uNe hr.units) (pe_callB uLen (by rfl) n_len (by decide +kernel) (pa_cons (pv 0) pa_nil)) pe_int (nomark _)) (pw_or (pt_cmpR (uNe hr.units) (pe_ix ix_seq (pv 0) pe_int (fun _ _ => rfl)) pe_str (nomark _)) (pw_or1 (pt_not (pt_val (pe_df Dis_capital hr (by omega) (pa_cons (pe_ix ix_seq (pv 0) pe_int (fun _ _ => rfl)) pa_nil))))))))))
        (pss_one (ps_ret pe_bl))
        pss_nil)
      (pss_cons (ps_if (pt_w (PW.pt (pw_or (pt_not (pt_val (pe_df Dis_number hr (by omega) (pa_cons (pe_ix ix_seq (pv 0) pe_int (fun _ _ => rfl)) (pa_cons pe_int (pa_cons (pe_glob (v := .int ci_MOST_ARGUMENTS) rfl g_MOST_ARGUMENTS ⟨_, rfl⟩) pa_nil)))))) (pw_or (pt_not (pt_val (pe_df Dis_term hr (by omega) (pa_cons (pe_ix ix_seq (pv 0) pe_int (fun _ _ => rfl)) pa_nil)))) (pw_or1 (pt_not (pt_val (pe_df Dis_closed hr (by omega) (pa_cons (pe_ix ix_seq (pv 0) pe_int (fun _ _ => rfl)) pa_nil)))))))))
        (pss_one (ps_ret pe_bl))
        pss_nil)
      (pss_cons (ps_if (pt_not (pt_val (pe_callB call_isU (by rfl) n_isinstance (by decide +kernel) (pa_cons (pe_ix ix_seq (pv 0) pe_int (fun _ _ => rfl)) (pa_cons (pe_bltn (v := .ty "tuple") rfl n_tuple (by decide +kernel) rfl) pa_nil)))))
        (pss_one (ps_ret pe_bl))
        pss_nil)
      (pss_cons (ps_for PassesOwn.never rfl (pi_seq (pe_ix ix_seq (pv 0) pe_int (fun _ _ => rfl))) (pg_name (i := 1) nd rfl (Or.inl rfl))
        (pss_cons (ps_if (pt_w (PW.pt (pw_or (pt_not (pt_val (pe_callB call_isU (by rfl) n_isinstance (by decide +kernel) (pa_cons (pv 1) (pa_cons (pe_bltn (v := .ty "tuple") rfl n_tuple (by decide +kernel) rfl) pa_nil))))) (pw_or (pt_cmpR (uNe hr.units) (pe_callB uLen (by rfl) n_len (by decide +kernel) (pa_cons (pv 1) pa_nil)) pe_int (nomark _)) (pw_or1 (pt_not (pt_val (pe_df Dis_capital hr (by omega) (pa_cons (pe_ix ix_seq (pv 1) pe_int (fun _ _ => rfl)) pa_nil)))))))))
          (pss_one (ps_ret pe_bl))
          pss_nil)
        (pss_one (ps_if (pt_w (PW.pt (pw_or (pt_not (pt_val (pe_df Dis_term hr (by omega) (pa_cons (pe_ix ix_seq (pv 1) pe_int (fun _ _ => rfl)) pa_nil)))) (pw_or1 (pt_not (pt_val (pe_df Dis_closed hr (by omega) (pa_cons (pe_ix ix_seq (pv 1) pe_int (fun _ _ => rfl)) pa_nil))))))))
          (pss_one (ps_ret pe_bl))
          pss_nil))))
      (pss_one (ps_ret pe_bl)))))), ?_⟩
    rcases hh with ⟨x, many, ty, mk, hv, wf, hn, k⟩ | ⟨⟨t, ht, hk⟩ | ⟨a, xs, rfl, hT, hl⟩, k⟩ | ⟨a, xs, rfl, hT, hl, k⟩
    · unfold Dcl.pd at hv
      obtain ⟨a, xs, rfl, hT, hD⟩ := hv.tupI
      obtain ⟨v1, r1, rfl, d1, hD⟩ := hD.consI
      obtain ⟨v2, r2, rfl, d2, hD⟩ := hD.consI
      obtain ⟨v3, r3, rfl, d3, hD⟩ := hD.consI
      obtain ⟨v4, r4, rfl, d4, hD⟩ := hD.consI
      obtain ⟨v5, r5, rfl, d5, hD⟩ := hD.consI
      obtain rfl := hD.nilI
      obtain rfl := d1.strI
      obtain rfl := d2.strI
      obtain rfl := d3.intI
      obtain ⟨hx, hm, hty, hmk, hmks⟩ : isCap x = true ∧ many ≤ 60 ∧ cloOk ty ∧ mk.length ≤ 1000000 ∧ ∀ p ∈ mk, isCap p.1 = true ∧ cloOk p.2 := wf
      have hx' := (okW_word (word_cap hx)).2
      refine ⟨⟨_, rfl, isi_u (sqT_tyx hT) (by decide +kernel) ⟨true, rfl, iteF ⟨_, rfl, _, 5, rfl, .inr ⟨_, hT, rfl⟩, eq_f (b := false) rfl (by rfl) ⟨_, rfl, iteF ⟨_, rfl, ixt (i := 0) hT rfl (eq_str (b := false) (by decide +kernel) ⟨_, rfl, iteF ⟨_, rfl, ixt (i := 1) hT rfl ⟨_, rfl, by omega, fun H1 e1 => ⟨_, rfl, ?_⟩⟩⟩⟩)⟩⟩⟩⟩⟩⟩
      rw [hx]
      have hT1 := sqs hT e1
      refine iteF ?_
      refine ⟨⟨_, rfl, ixt (i := 2) hT1 rfl ⟨_, _, _, _, rfl, .int _, _, rfl, ?_⟩⟩⟩
      rw [numB_nat (by show (many : Int) ≤ 60; omega) (by omega)]
      refine iteF ⟨_, rfl, ixt (i := 3) hT1 rfl ⟨.inl ⟨_, ty, rfl, d4.same e1, hty.1.1, by have := hty.1.2; have := nodes_le ty; omega, fun H2 e2 => ⟨_, rfl, iteF ⟨_, rfl, ixt (i := 3) (sqs hT1 e2) rfl ⟨_, ty, rfl, (d4.same e1).same e2, hty.1.1, by have := hty.1.2; have := nodes_le ty; omega, fun H3 e3 => ⟨_, rfl, ?_⟩⟩⟩⟩⟩⟩⟩
      rw [hty.2]
      have e13 := e1.trans (e2.trans e3)
      have hT3 := sqs hT e13
      have d53 := d5.same e13
      clear hT1 hT
      obtain ⟨a5, xs5, rfl, hT5, hD5⟩ := d53.tupI
      refine iteF ⟨_, rfl, ixt (i := 4) hT3 rfl (isi_u (sqT_tyx hT5) (by decide +kernel) ⟨true, rfl, iteF ?_⟩)⟩
      refine ⟨_, rfl, ixt (i := 4) hT3 rfl ⟨a5, rfl, .inr ⟨⟨_, hT5⟩, for_tup (K := K) (a := a5) (xs := xs5)
        (fun i σ H4 => ∃ (x1 : Option V), σ = [some (.ref a), x1] ∧ Same H3 H4) ⟨_, rfl, Same.refl _⟩ (fun i σ H4 _ ⟨_, _, e4⟩ => sqs hT5 e4) ?_ ?_⟩⟩⟩
      · rintro i vx σ H4 hi ⟨x1, rfl, e4⟩
        obtain ⟨dm, hdm, dx⟩ := (DtAll.keep (TK.same e4) _ hD5).get hi
        rw [List.getElem?_map] at hdm
        obtain ⟨mp, hmp, rfl⟩ := Option.map_eq_some_iff.mp hdm
        obtain ⟨hcm, hck⟩ := hmks mp (List.mem_of_getElem? hmp)
        unfold mkD at dx
        obtain ⟨am, xm, rfl, hTm, hDm⟩ := dx.tupI
        obtain ⟨w1, q1, rfl, f1, hDm⟩ := hDm.consI
        obtain ⟨w2, q2, rfl, f2, hDm⟩ := hDm.consI
        obtain rfl := hDm.nilI
        obtain rfl := f1.strI
        have hy' := (okW_word (word_cap hcm)).2
        have hnd := nodes_le mp.2
        have hwl := hck.1.2
        refine ⟨⟨_, rfl, isi_u (sqT_tyx hTm) (by decide +kernel) ⟨true, rfl, iteF ⟨_, rfl, _, 2, rfl, .inr ⟨_, hTm, rfl⟩, eq_f (b := false) rfl (by rfl) ⟨_, rfl, iteF ⟨_, rfl, ixt (i := 0) hTm rfl ⟨_, rfl, by omega, fun H5 e5 => ⟨_, rfl, ?_⟩⟩⟩⟩⟩⟩⟩⟩
        rw [hcm]
        refine iteF ?_
        refine ⟨_, rfl, ixt (i := 1) (sqs hTm e5) rfl ⟨.inl ⟨_, mp.2, rfl, f2.same e5, hck.1.1, by omega, fun H6 e6 => ⟨_, rfl, iteF ⟨_, rfl, ixt (i := 1) (sqs hTm (e5.trans e6)) rfl ⟨_, mp.2, rfl, f2.same (e5.trans e6), hck.1.1, by omega, fun H7 e7 => ⟨_, rfl, ?_⟩⟩⟩⟩⟩⟩⟩
        rw [hck.2]
        exact iteF ⟨_, rfl, e4.trans (e5.trans (e6.trans e7))⟩
      · rintro σ H4 ⟨x1, rfl, e4⟩
        exact k _ (e13.trans e4)
    · exact ⟨⟨_, rfl, isi_u ht hk ⟨false, rfl, iteT k⟩⟩⟩
    · have hlen : (!decide ((xs.length : Int) = 5)) = true := by rw [Bool.not_eq_true', decide_eq_false_iff_not]; omega
      exact ⟨⟨_, rfl, isi_u (sqT_tyx hT) (by decide +kernel) ⟨true, rfl, iteF ⟨_, rfl, _, xs.length, rfl, .inr ⟨_, hT, rfl⟩, eq_f (b := true) (by rfl) (ne_len hlen) ⟨_, rfl, iteT k⟩⟩⟩⟩⟩
    · exact ⟨⟨_, rfl, isi_u (sqT_tyx hT) (by decide +kernel) ⟨true, rfl, iteF ⟨_, rfl, _, 7, rfl, .inr ⟨_, hT, hl.symm⟩, eq_f (b := true) (by rfl) (by rfl) ⟨_, rfl, iteT k⟩⟩⟩⟩⟩
theorem sc_is_function : FnScope ["value"] ["value"] (defScope s_is_function) := ⟨rfl, rfl, rfl, by decide +kernel, rfl, by decide +kernel, by decide +kernel⟩
theorem ok_is_function {f : Addr} {fd : FuncData} {t1 : Tok} (F : Fun K "is_function" "is_function" s_is_function f fd) (n_isinstance : mg "isinstance" = none) (n_tuple : mg "tuple" = none) (n_bool : mg "bool" = none) (n_len : mg "len" = none) (g_MOST_ARGUMENTS : mg "MOST_ARGUMENTS" = some (.int ci_MOST_ARGUMENTS t1))
    (Dis_term : Df P w K mg base "is_term" 4 ["value"] (spTerm4 K)) (Dis_number : Df P w K mg base "is_number" 2 ["value", "least", "most"] (spNumber K)) (Dis_small : Df P w K mg base "is_small" 2 ["value"] spSm) (Dis_closed : Df P w K mg base "is_closed" 2 ["term"] (spClo K)) (Dis_tree : Df P w K mg base "is_tree" 5 ["value"] (spTree K)) : FnOk P w K mg base CX0 6 f fd ["value"] (spFun K) := by
  refine F.ok sc_is_function (fun vs H Q E h => ?_) (fun cdv A outer s H vs Q E hr h => ?_)
  · obtain ⟨v, rfl, _⟩ := h.ex; rfl
  · obtain ⟨v, rfl, hh⟩ := h.ex
    have nd := sc_is_function.nd
    refine ⟨_, (pss_cons (ps_if (pt_w (PW.pt (pw_or (pt_not (pt_val (pe_callB call_isU (by rfl) n_isinstance (by decide +kernel) (pa_cons (pv 0) (pa_cons (pe_bltn (v := .ty "tuple") rfl n_tuple (by decide +kernel) rfl) pa_nil))))) (pw_or (pt_cmpR (uNe hr.units) (pe_callB uLen (by rfl) n_len (by decide +kernel) (pa_cons (pv 0) pa_nil)) pe_int (nomark _)) (pw_or (pt_cmpR (uNe hr.units) (pe_ix ix_seq (pv 0) pe_int (fun _ _ => rfl)) pe_str (nomark _)) (pw_or1 (pt_not (pt_val (pe_df Dis_small hr (by omega) (pa_cons (pe_ix ix_seq (pv 0) pe_int (fun _ _ => rfl)) pa_nil))))))))))
        (pss_one (ps_ret pe_bl))
        pss_nil)
      (pss_cons (ps_if (pt_w (PW.pt (pw_or (pt_not (pt_val (pe_df Dis_term hr (by omega) (pa_cons (pe_ix ix_seq (pv 0) pe_int (fun _ _ => rfl)) pa_nil)))) (pw_or (pt_not (pt_val (pe_df Dis_closed hr (by omega) (pa_cons (pe_ix ix_seq (pv 0) pe_int (fun _ _ => rfl)) pa_nil)))) (pw_or1 (pt_not (pt_val (pe_df Dis_number hr (by omega) (pa_cons (pe_ix ix_seq (pv 0) pe_int (fun _ _ => rfl)) (pa_cons pe_int (pa_cons (pe_glob (v := .int ci_MOST_ARGUMENTS) rfl g_MOST_ARGUMENTS ⟨_, rfl⟩) pa_nil)))))))))))
        (pss_one (ps_ret pe_bl))
        pss_nil)
      (pss_cons (ps_if (pt_w (PW.pt (pw_and (pt_cmpR op_notN (pe_ix ix_seq (pv 0) pe_int (fun _ _ => rfl)) pe_non (nomark _)) (pw_and1 (pt_not (pt_val (pe_df Dis_number hr (by omega) (pa_cons (pe_ix ix_seq (pv 0) pe_int (fun _ _ => rfl)) (pa_cons pe_int (pa_cons (pe_op op_sub (pe_ix ix_seq (pv 0) pe_int (fun _ _ => rfl)) pe_int) pa_nil))))))))))
        (pss_one (ps_ret pe_bl))
        pss_nil)
      (pss_one (ps_ret (pe_and (pe_df Dis_tree hr (by omega) (pa_cons (pe_ix ix_seq (pv 0) pe_int (fun _ _ => rfl)) pa_nil)) (pe_one (pe_callB call_isU (by rfl) n_isinstance (by decide +kernel) (pa_cons (pe_ix ix_seq (pv 0) pe_int (fun _ _ => rfl)) (pa_cons (pe_bltn (v := .ty "bool") rfl n_bool (by decide +kernel) rfl) pa_nil)))))))))), ?_⟩
    rcases hh with ⟨x, ty, many, at_, tree, shut, hv, wf, hn, k⟩ | ⟨⟨t, ht, hk⟩ | ⟨a, xs, rfl, hT, hl⟩, k⟩
    · unfold Dcl.pd at hv
      obtain ⟨a, xs, rfl, hT, hD⟩ := hv.tupI
      obtain ⟨v1, r1, rfl, d1, hD⟩ := hD.consI
      obtain ⟨v2, r2, rfl, d2, hD⟩ := hD.consI
      obtain ⟨v3, r3, rfl, d3, hD⟩ := hD.consI
      obtain ⟨v4, r4, rfl, d4, hD⟩ := hD.consI
      obtain ⟨v5, r5, rfl, d5, hD⟩ := hD.consI
      obtain ⟨v6, r6, rfl, d6, hD⟩ := hD.consI
      obtain ⟨v7, r7, rfl, d7, hD⟩ := hD.consI
      obtain rfl := hD.nilI
      obtain rfl := d1.strI
      obtain rfl := d2.strI
      obtain rfl := d4.intI
      cases d7
      obtain ⟨hx, hm, hty, hat, htr, hnb⟩ : isSm x = true ∧ many ≤ 60 ∧ cloOk ty ∧ (∀ a, at_ = some a → a < many) ∧ tree.wf ∧ tree ≠ .barred := wf
      have hx' := (okW_word (word_sm hx)).2
      have hnd := nodes_le ty
      have hwl := hty.1.2
      refine ⟨⟨_, rfl, isi_u (sqT_tyx hT) (by decide +kernel) ⟨true, rfl, iteF ⟨_, rfl, _, 7, rfl, .inr ⟨_, hT, rfl⟩, eq_f (b := false) rfl (by rfl) ⟨_, rfl, iteF ⟨_, rfl, ixt (i := 0) hT rfl (eq_str (b := false) (by decide +kernel) ⟨_, rfl, iteF ⟨_, rfl, ixt (i := 1) hT rfl ⟨_, rfl, by omega, fun H1 e1 => ⟨_, rfl, ?_⟩⟩⟩⟩)⟩⟩⟩⟩⟩⟩
      rw [hx]
      have hT1 := sqs hT e1
      refine iteF ?_
      refine ⟨⟨_, rfl, ixt (i := 2) hT1 rfl ⟨.inl ⟨_, ty, rfl, d3.same e1, hty.1.1, by omega, fun H2 e2 => ⟨_, rfl, iteF ⟨_, rfl, ixt (i := 2) (sqs hT1 e2) rfl ⟨_, ty, rfl, (d3.same e1).same e2, hty.1.1, by omega, fun H3 e3 => ⟨_, rfl, ?_⟩⟩⟩⟩⟩⟩⟩⟩
      rw [hty.2]
      have e13 := e1.trans (e2.trans e3)
      have hT3 := sqs hT e13
      have d53 := d5.same e13
      have d63 := d6.same e13
      clear hT1 hT
      refine iteF ⟨_, rfl, ixt (i := 3) hT3 rfl ⟨_, _, _, _, rfl, .int _, _, rfl, ?_⟩⟩
      rw [numB_nat (by show (many : Int) ≤ 60; omega) (by omega)]
      refine iteF ?_
      cases at_ with
      | none =>
        cases d53
        refine ⟨⟨_, rfl, ixt (i := 4) hT3 rfl ⟨rfl, _, rfl, iteF ?_⟩⟩⟩
        exact ⟨_, rfl, ixt (i := 5) hT3 rfl ⟨_, tree, rfl, d63, htr, hnb, hn, fun H4 e4 => ⟨_, rfl, iteT ⟨_, rfl, ixt (i := 6) (sqs hT3 e4) rfl (isi_u (.base (.bl _)) (by decide +kernel) (k _ (e13.trans e4)))⟩⟩⟩⟩
      | some q =>
        obtain rfl := d53.intI
        have hq := hat q rfl
        refine ⟨⟨_, rfl, ixt (i := 4) hT3 rfl ⟨rfl, _, rfl, iteT ?_⟩⟩⟩
        refine ⟨_, rfl, ixt (i := 4) hT3 rfl ⟨_, rfl, ixt (i := 3) hT3 rfl ⟨_, _, rfl, rfl, ⟨_, _, _, _, rfl, .int _, _, rfl, ?_⟩⟩⟩⟩
        rw [numB_nat (by omega) (by omega)]
        refine iteF ?_
        exact ⟨_, rfl, ixt (i := 5) hT3 rfl ⟨_, tree, rfl, d63, htr, hnb, hn, fun H4 e4 => ⟨_, rfl, iteT ⟨_, rfl, ixt (i := 6) (sqs hT3 e4) rfl (isi_u (.base (.bl _)) (by decide +kernel) (k _ (e13.trans e4)))⟩⟩⟩⟩
    · exact ⟨⟨_, rfl, isi_u ht hk ⟨false, rfl, iteT k⟩⟩⟩
    · have hlen : (!decide ((xs.length : Int) = 7)) = true := by rw [Bool.not_eq_true', decide_eq_false_iff_not]; omega
      exact ⟨⟨_, rfl, isi_u (sqT_tyx hT) (by decide +kernel) ⟨true, rfl, iteF ⟨_, rfl, _, xs.length, rfl, .inr ⟨_, hT, rfl⟩, eq_f (b := true) (by rfl) (ne_len hlen) ⟨_, rfl, iteT k⟩⟩⟩⟩⟩
theorem sc_is_declaration : FnScope ["value"] ["value"] (defScope s_is_declaration) := ⟨rfl, rfl, rfl, by decide +kernel, rfl, by decide +kernel, by decide +kernel⟩
theorem ok_is_declaration {f : Addr} {fd : FuncData} (F : Fun K "is_declaration" "is_declaration" s_is_declaration f fd) (Dis_kind : Df P w K mg base "is_kind" 5 ["value"] (spKind K)) (Dis_function : Df P w K mg base "is_function" 6 ["value"] (spFun K)) : FnOk P w K mg base CX0 7 f fd ["value"] (spDecl K) := by
  refine F.ok sc_is_declaration (fun vs H Q E h => ?_) (fun cdv A outer s H vs Q E hr h => ?_)
  · obtain ⟨v, rfl, _⟩ := h.ex; rfl
  · obtain ⟨v, rfl, hh⟩ := h.ex
    have nd := sc_is_declaration.nd
    refine ⟨_, (pss_one (ps_ret (pe_or (pe_df Dis_kind hr (by omega) (pa_cons (pv 0) pa_nil)) (pe_one (pe_df Dis_function hr (by omega) (pa_cons (pv 0) pa_nil)))))), ?_⟩
    rcases hh with ⟨d, hv, wf, hn, k⟩ | ⟨hb, k⟩
    · cases d with
      | kind x many ty mk =>
        have hn' : mk.length ≤ 1000 := by unfold Dcl.rows at hn; simp at hn; omega
        exact ⟨_, rfl, ⟨_, rfl, .inl ⟨x, many, ty, mk, hv, wf, hn', fun H1 e1 => ⟨_, rfl, iteT (k _ e1)⟩⟩⟩⟩
      | fn x ty many at_ tree shut =>
        have hn' : tree.rows.length ≤ 1000 := by unfold Dcl.rows at hn; simp at hn; omega
        have hv2 := hv
        unfold Dcl.pd at hv2
        obtain ⟨a, xs, rfl, hT, hD⟩ := hv2.tupI
        refine ⟨_, rfl, ⟨_, rfl, .inr (.inr ⟨a, xs, rfl, hT, by rw [hD.length]; rfl, ⟨_, rfl, iteF ?_⟩⟩)⟩⟩
        exact ⟨_, rfl, ⟨_, rfl, .inl ⟨x, ty, many, at_, tree, shut, hv, wf, hn', fun H1 e1 => k _ e1⟩⟩⟩
    · refine ⟨_, rfl, ⟨_, rfl, .inr (.inl ⟨hb, ⟨_, rfl, iteF ?_⟩⟩)⟩⟩
      exact ⟨_, rfl, ⟨_, rfl, .inr ⟨hb, k⟩⟩⟩
end
end RS

/-! Rows6: tree_rows. -/
namespace RS
open PySem PySem.Spec PyProof.Rows L2 TL NdefX

theorem app_assoc (a b c : Str) : a ++ b ++ c = a ++ (b ++ c) := by
  apply str_ext
  rw [cl_app, cl_app, cl_app, cl_app, List.append_assoc]
theorem row_one (b : Str) : row [b] = b := join_one b
theorem row_cons2 (a b : Str) (l : List Str) : row (a :: b :: l) = a ++ " " ++ row (b :: l) := by
  apply str_ext
  rw [cl_join2, cl_app, cl_app, sp_cl, List.append_assoc]
  rfl
theorem pre_row {p p' : Str} {ws : List Str} (h : p ++ " " = p') (hne : ws ≠ []) : row (p :: ws) = p' ++ row ws := by
  cases ws with
  | nil => exact absurd rfl hne
  | cons b l => rw [row_cons2, h]
theorem leaf_row (u : Tm) : row ("leaf" :: cwords u) = "leaf " ++ row (cwords u) := pre_row (by decide +kernel) (cwords_ne u)
theorem type_row (u : Tm) : row ("type" :: cwords u) = "type " ++ row (cwords u) := pre_row (by decide +kernel) (cwords_ne u)
theorem split_row (a b : Str) : row ["split", a, b] = "split " ++ a ++ " " ++ b := by
  rw [row_cons2, row_cons2, row_one, show ("split" : Str) ++ " " = "split " from by decide +kernel, ← app_assoc, ← app_assoc]
theorem kind_row (x a b : Str) : row ["kind", x, a, b] = "kind " ++ x ++ " " ++ a ++ " " ++ b := by
  rw [row_cons2, row_cons2, row_cons2, row_one, show ("kind" : Str) ++ " " = "kind " from by decide +kernel, ← app_assoc, ← app_assoc, ← app_assoc, ← app_assoc]
theorem maker_row (x : Str) (u : Tm) : row ("maker" :: x :: cwords u) = "maker " ++ x ++ " " ++ row (cwords u) := by
  rw [row_cons2, pre_row rfl (cwords_ne u), show ("maker" : Str) ++ " " = "maker " from by decide +kernel, ← app_assoc, ← app_assoc]
theorem tm_row_len {u : Tm} (h : tmOk u) : (row (cwords u)).length ≤ 6500 := by
  have := join_cl_len _ (okW_words u h.1)
  have := h.2
  show (Txt.join " " (cwords u)).length ≤ 6500
  omega
theorem numS_len {n : Nat} (h : n < 10 ^ 18) : (numS n).length ≤ 18 := len_num (n := (n : Nat)) (by omega) (by omega)
def spTR (K : PySem.W.Frag) : Sp := fun vs H Q _ => ∃ (v : V) (t : Tr), vs = [v] ∧ Dt K H v t.pd ∧ t.wf ∧ t.rows.length ≤ 1000 ∧ ∀ p H', Same H H' → H p = none → H' p = some (.lst (t.rows.map V.str)) → Q (.ref p) H'
def trInv (K : PySem.W.Frag) (H : Hp) (v : V) (t : Tr) (m : Nat) (σ : L2.St) (H1 : Hp) : Prop := ∃ (lr l : Addr) (done : List Str) (vals : List V) (ts : List Tr) (x3 : Option V), σ = [some v, some (.ref lr), some (.ref l), x3] ∧ H lr = none ∧ H l = none ∧ lr ≠ l ∧ H1 lr = some (.lst (done.map V.str)) ∧ H1 l = some (.lst vals) ∧ Same H H1 ∧ DtAll K H1 vals (ts.map Tr.pd) ∧ (∀ t ∈ ts, t.wf) ∧ done ++ rowsL ts.reverse = t.rows ∧ m = sumR ts
section
variable {P : Program} {w : World} {K : PySem.W.Frag} {mg : Str → Option Value} {base : Heap}
theorem sc_tree_rows : FnScope ["tree", "rows", "left", "one"] ["tree"] (defScope s_tree_rows) := ⟨rfl, rfl, rfl, by decide +kernel, rfl, by decide +kernel, by decide +kernel⟩
theorem ok_tree_rows {CB f : Addr} {fd : FuncData} (F : Fun K "tree_rows" "tree_rows" s_tree_rows f fd) (n_str : mg "str" = none) (n_len : mg "len" = none) (n_list : mg "list" = none)
    (Dterm_text : DfX P w K mg base "term_text" 203 ["term"] (spTT K CB 200)) : FnOk P w K mg base (L2.CX P w) 204 f fd ["tree"] (spTR K) := by
  refine F.okX sc_tree_rows (fun vs H Q E h => ?_) (fun cdv A outer s H vs Q E hr h => ?_)
  · obtain ⟨v, t, rfl, _⟩ := h; rfl
  · obtain ⟨v, t, rfl, hv, wf, hn, k⟩ := h
    have nd := sc_tree_rows.nd
    refine ⟨_, (pss_cons (ps_par (i := 1) (j := 2) rfl nd rfl rfl (by decide) rfl rfl (pa_cons (pe_lstN pa_nil) (pa_cons (pe_lstN (pa_cons (pv 0) pa_nil)) pa_nil)) rfl)
      (pss_cons (ps_while (passes_of rfl) (pt_cmpR (uNe hr.units) (pv 2) (pe_lstN pa_nil) (nomark _))
        (pss_cons (ps_set (i := 3) nd rfl (Or.inl rfl) (pe_bm0 PySem.F.plainAttrs_list PySem.F.slot_list_pop PySem.F.type_list_pop mt_pop (pv 2)))
        (pss_one (ps_if (pt_cmpR op_isN (pv 3) pe_non (nomark _))
          (pss_one (ps_expr (pe_bm PySem.F.plainAttrs_list PySem.F.slot_list_append PySem.F.type_list_append mt_append (pv 1) (pa_cons pe_str pa_nil))))
          (pss_one (ps_if (pt_cmpR (uEq hr.units) (pe_ix ix_seq (pv 3) pe_int (fun _ _ => rfl)) pe_str (nomark _))
            (pss_one (ps_expr (pe_bm PySem.F.plainAttrs_list PySem.F.slot_list_append PySem.F.type_list_append mt_append (pv 1) (pa_cons (pe_op uAdd pe_str (pe_dfX Dterm_text hr (by omega) (passes_call (takes_of rfl rfl rfl rfl) fun _ _ _ _ h => h) (pa_cons (pe_ix ix_seq (pv 3) pe_int (fun _ _ => rfl)) pa_nil))) pa_nil))))
            (pss_cons (ps_expr (pe_bm PySem.F.plainAttrs_list PySem.F.slot_list_append PySem.F.type_list_append mt_append (pv 1) (pa_cons (pe_op uAdd (pe_op uAdd (pe_op uAdd pe_str (pe_callTy call_str_int (by rfl) n_str (by decide +kernel) (pa_cons (pe_ix ix_seq (pv 3) pe_int (fun _ _ => rfl)) pa_nil))) pe_str) (pe_callTy call_str_int (by rfl) n_str (by decide +kernel) (pa_cons (pe_callB uLen (by rfl) n_len (by decide +kernel) (pa_cons (pe_ix ix_seq (pv 3) pe_int (fun _ _ => rfl)) pa_nil)) pa_nil))) pa_nil)))
            (pss_one (ps_set (i := 2) nd rfl (Or.inl rfl) (pe_op uAdd (pv 2) (pe_revL (pe_callTy call_list_of (by rfl) n_list (by decide +kernel) (pa_cons (pe_ix ix_seq (pv 3) pe_int (fun _ _ => rfl)) pa_nil)))))))))))))
      (pss_one (ps_ret (pv 1))))), ?_⟩
    refine lst_new (Nat.zero_le _) fun lr nlr => ⟨_, rfl, lst_new (xs := [v]) (Nat.le_add_left 1 999) fun l nl => ⟨_, _, rfl, ?_⟩⟩
    have e0 : Same H (upd H lr (.lst [])) := same_new nlr
    refine ⟨trInv K H v t,
      ⟨_, lr, l, [], [v], [t], _, rfl, nlr, e0.free nl, ne_of_none upd_same nl, (upd_ne (ne_of_none upd_same nl)).trans upd_same, upd_same, e0.trans (same_new nl), .cons (hv.same (e0.trans (same_new nl))) .nil, fun t' ht' => by rw [List.mem_singleton.mp ht']; exact wf, by rw [List.reverse_singleton, rowsL_one]; rfl, rfl⟩, ?_⟩
    rintro m σ H1 ⟨lr, l, done, vals, ts, x3, rfl, nlr, nl, hne, hlr, hl, e1, hA, wfs, hrow, rfl⟩
    refine ⟨_, rfl, lst_new (Nat.zero_le _) fun p np => eq_n (SqL.of ((upd_ne (ne_of_none hl np)).trans hl)) (SqL.of upd_same) (b := !vals.isEmpty) (by cases vals <;> rfl) ⟨_, rfl, ?_⟩⟩
    have e2 : Same H1 (upd H1 p (.lst [])) := same_new np
    replace hl := e2 _ _ hl
    replace hlr := e2 _ _ hlr
    replace hA := DtAll.keep (TK.same (K := K) e2) _ hA
    replace e2 := e1.trans e2
    clear e1
    generalize upd H1 p (.lst []) = H2 at e2 hl hlr hA ⊢
    have hlen : done.length + sumR ts = t.rows.length := by
      rw [← hrow, List.length_append, sumR_rowsL]
      unfold sumR
      rw [List.map_reverse, List.sum_reverse]
    rcases List.eq_nil_or_concat ts with rfl | ⟨ti, tl, rfl⟩
    · obtain rfl := hA.nilI
      refine iteF ?_
      have ed : done = t.rows := by rw [← hrow, List.reverse_nil, rowsL_map]; simp
      rw [ed] at hlr
      exact ⟨_, rfl, k _ _ e2 nlr hlr⟩
    · rw [List.concat_eq_append] at hA wfs hrow hlen ⊢
      rw [List.map_append] at hA
      obtain ⟨ys, y, rfl, dy, du⟩ := hA.snocI
      have hbe : (!(ys ++ [y]).isEmpty) = true := by cases ys <;> rfl
      rw [hbe]
      rw [sumR_app, sumR_one] at hlen ⊢
      have hrow2 : done ++ (tl.rows ++ rowsL ti.reverse) = t.rows := by
        rw [← hrow, List.reverse_append, rowsL_app, List.reverse_singleton, rowsL_one]
      have wfl : tl.wf := wfs tl (by simp)
      have wfi : ∀ t ∈ ti, t.wf := fun t ht => wfs t (by simp [ht])
      have hpos := rows_pos tl
      refine iteT ⟨_, fun _ _ h => h, ?_⟩
      refine ⟨_, rfl, pop_last hl ?_⟩
      have e3 : Same H (upd H2 l (.lst ys)) := same_mut e2 nl
      have hl3 : upd H2 l (.lst ys) l = some (.lst ys) := upd_same
      have hlr3 : upd H2 l (.lst ys) lr = some (.lst (done.map V.str)) := (upd_ne hne).trans hlr
      have du3 := Dt.keep (TK.lst (o := .lst ys) hl) _ du
      have dy3 := DtAll.keep (K := K) (TK.lst (o := .lst ys) hl) _ dy
      generalize upd H2 l (.lst ys) = H3 at e3 hl3 hlr3 du3 dy3 ⊢
      clear e2 hl hlr dy du hrow
      have fin1 : ∀ (z : Str) (H4 : Hp) (x3 : Option V), Same H3 H4 → tl.rows = [z] → trInv K H v t (sumR ti) [some v, some (.ref lr), some (.ref l), x3] (upd H4 lr (.lst (done.map V.str ++ [V.str z]))) := fun z H4 x3 e4 ez =>
        ⟨lr, l, done ++ [z], ys, ti, x3, rfl, nlr, nl, hne, by rw [List.map_append]; exact upd_same, (upd_ne (Ne.symm hne)).trans (e4 _ _ hl3), same_mut (e3.trans e4) nlr, DtAll.keep (TK.lst (e4 _ _ hlr3)) _ (DtAll.keep (TK.same e4) _ dy3), wfi, by rw [← hrow2, ez, List.append_assoc], rfl⟩
      cases tl with
      | barred =>
        unfold Tr.pd at du3
        cases du3
        refine ⟨_, rfl, rfl, _, rfl, iteT ?_⟩
        refine ⟨_, rfl, .inl ⟨rfl, _, SqL.of hlr3⟩, lr, _, _, rfl, rfl, hlr3, lt_line (by rw [List.length_map]; omega), ?_⟩
        exact ⟨sumR ti, by omega, fin1 "barred" H3 _ (Same.refl _) rfl⟩
      | leaf u =>
        unfold Tr.pd at du3
        obtain ⟨a, xs, rfl, hT, hD⟩ := du3.tupI
        obtain ⟨v1, r1, rfl, d1, hD⟩ := hD.consI
        obtain ⟨v2, r2, rfl, d2, hD⟩ := hD.consI
        obtain rfl := hD.nilI
        obtain rfl := d1.strI
        have wfu : tmOk u := by unfold Tr.wf at wfl; exact wfl
        have hdp := depth_le u
        have hul := tm_row_len wfu
        have l5 : ("leaf " : Str).length = 5 := by decide +kernel
        refine ⟨_, rfl, rfl, _, rfl, iteF ?_⟩
        refine ⟨_, rfl, ixt (i := 0) hT rfl (eq_str (b := true) (by decide +kernel) ⟨_, rfl, iteT ?_⟩)⟩
        refine ⟨_, rfl, .inl ⟨rfl, _, SqL.of hlr3⟩, _, rfl, ixt (i := 1) hT rfl ⟨v2, rfl, .inl ⟨u, d2, wfu.1, by have := wfu.2; omega, by have := wfu.2; omega, fun H4 e4 => ?_⟩⟩⟩
        have hl6 : (Txt.join " " (cwords u)).length ≤ 6500 := hul
        refine add_s (by rw [sizeLine_eq]; omega) ⟨lr, _, _, rfl, rfl, e4 _ _ hlr3, lt_line (by rw [List.length_map]; omega), ?_⟩
        exact ⟨sumR ti, by omega, fin1 _ H4 _ e4 (by unfold Tr.rows; rw [leaf_row])⟩
      | split p0 bs =>
        unfold Tr.pd at du3
        obtain ⟨a, xs, rfl, hT, hD⟩ := du3.tupI
        obtain ⟨v1, r1, rfl, d1, hD⟩ := hD.consI
        obtain ⟨v2, r2, rfl, d2, hD⟩ := hD.consI
        obtain ⟨v3, r3, rfl, d3, hD⟩ := hD.consI
        obtain rfl := hD.nilI
        obtain rfl := d1.strI
        obtain rfl := d2.intI
        have wfb : p0 ≤ 1000000 ∧ bs.length ≤ 1000000 ∧ wfL bs := by unfold Tr.wf at wfl; exact wfl
        have hrl : (Tr.split p0 bs).rows.length = sumR bs + 1 := by rw [Tr.rows, List.length_cons, sumR_rowsL]
        rw [hrl] at hlen ⊢
        rw [pdL_map] at d3
        obtain ⟨a3, xs3, rfl, hT3, hD3⟩ := d3.tupI
        have lx : xs3.length = bs.length := by rw [hD3.length, List.length_map]
        have lb := len_sumR bs
        have n1 : (Str.ofString (toString (p0 : Int))).length ≤ 18 := numS_len (n := p0) (by omega)
        have n2 : (Str.ofString (toString ((bs.length : Nat) : Int))).length ≤ 18 := numS_len (n := bs.length) (by omega)
        have l5 : ("split " : Str).length = 6 := by decide +kernel
        have l6 : (" " : Str).length = 1 := by decide +kernel
        refine ⟨_, rfl, rfl, _, rfl, iteF ?_⟩
        refine ⟨_, rfl, ixt (i := 0) hT rfl (eq_str (b := false) (by decide +kernel) ⟨_, rfl, iteF ?_⟩)⟩
        refine ⟨_, rfl, .inl ⟨rfl, _, SqL.of hlr3⟩, _, rfl, ixt (i := 1) hT rfl ⟨_, rfl, log_small (by omega) (by omega), add_s (line_of ?_) (add_s (line_of ?_) ⟨_, rfl, ixt (i := 2) hT rfl ⟨_, bs.length, rfl, .inr ⟨_, hT3, lx.symm⟩, ⟨_, rfl, log_small (by omega) (by omega), add_s (line_of ?_) ⟨lr, done.map V.str, .str ("split " ++ numS p0 ++ " " ++ numS bs.length), rfl, rfl, hlr3, lt_line (by rw [List.length_map]; omega), ?_⟩⟩⟩⟩)⟩⟩
        · omega
        · rw [len_app]; omega
        · rw [len_app, len_app]; omega
        · have hl4 : upd H3 lr (.lst (done.map V.str ++ [V.str ("split " ++ numS p0 ++ " " ++ numS bs.length)])) l = some (.lst ys) := (upd_ne (Ne.symm hne)).trans hl3
          have hlr4 : upd H3 lr (.lst (done.map V.str ++ [V.str ("split " ++ numS p0 ++ " " ++ numS bs.length)])) lr = some (.lst ((done ++ [row ["split", numS p0, numS bs.length]]).map V.str)) := by rw [split_row, List.map_append]; exact upd_same
          have e4 : Same H (upd H3 lr (.lst (done.map V.str ++ [V.str ("split " ++ numS p0 ++ " " ++ numS bs.length)]))) := same_mut e3 nlr
          have t4 : TK K H3 (upd H3 lr (.lst (done.map V.str ++ [V.str ("split " ++ numS p0 ++ " " ++ numS bs.length)]))) := TK.lst hlr3
          have hT4 := t4 _ _ hT
          have hT34 := t4 _ _ hT3
          have dy4 := DtAll.keep t4 _ dy3
          have hD4 := DtAll.keep t4 _ hD3
          generalize upd H3 lr (.lst (done.map V.str ++ [V.str ("split " ++ numS p0 ++ " " ++ numS bs.length)])) = H4 at hl4 hlr4 e4 hT4 hT34 dy4 hD4 ⊢
          have ly : ys.length ≤ sumR ti := by rw [dy4.length, List.length_map]; exact len_sumR ti
          refine ⟨_, rfl, _, rfl, ixt (i := 2) hT4 rfl ⟨a3, xs3, rfl, .inr hT34, fun l2 nl2 => ⟨_, _, rfl, SqL.of upd_same, fun l3 nl3 => ?_⟩⟩⟩
          have e5 : Same H4 (upd (upd H4 l2 (.lst xs3)) l3 (.lst xs3.reverse)) := (same_new nl2).trans (same_new nl3)
          have h5 : upd (upd H4 l2 (.lst xs3)) l3 (.lst xs3.reverse) l3 = some (.lst xs3.reverse) := upd_same
          generalize upd (upd H4 l2 (.lst xs3)) l3 (.lst xs3.reverse) = H5 at e5 h5 ⊢
          refine add_l (e5 _ _ hl4) h5 (by rw [sizeLine_eq, List.length_reverse]; omega) fun r nr => ?_
          have e6 : Same H4 (upd H5 r (.lst (ys ++ xs3.reverse))) := e5.trans (same_new nr)
          refine ⟨sumR ti + sumR bs, by omega, lr, r, done ++ [row ["split", numS p0, numS bs.length]], ys ++ xs3.reverse, ti ++ bs.reverse, _, rfl, nlr, (e4.trans e5).free nr, ne_of_none (e5 _ _ hlr4) nr, e6 _ _ hlr4, upd_same, e4.trans e6, ?_, ?_, ?_, ?_⟩
          · rw [List.map_append, List.map_reverse]
            exact (DtAll.keep (TK.same e6) _ dy4).append (DtAll.keep (TK.same e6) _ hD4).reverse
          · intro t ht
            rcases List.mem_append.mp ht with h | h
            · exact wfi t h
            · exact (wfL_iff _).mp wfb.2.2 t (List.mem_reverse.mp h)
          · rw [← hrow2, show (Tr.split p0 bs).rows = row ["split", numS p0, numS bs.length] :: rowsL bs by unfold Tr.rows; rfl, List.reverse_append, rowsL_app, List.reverse_reverse, List.append_assoc]
            rfl
          · rw [sumR_app]
            unfold sumR
            rw [List.map_reverse, List.sum_reverse]
end
end RS

/-! DText6: declared_text. -/
namespace RS
open PySem PySem.Spec PyProof.Rows L2 TL NdefX

theorem join_sum {ys : List Str} (h : ∀ z ∈ ys, z.length ≤ 7000) : (ys.map (·.length)).sum + ys.length * 1 ≤ 7001 * ys.length := by
  induction ys with
  | nil => exact Nat.le_refl _
  | cons a l ih =>
    have := ih fun z hz => h z (List.mem_cons_of_mem _ hz)
    have := h a List.mem_cons_self
    simp only [List.map_cons, List.sum_cons, List.length_cons]
    omega
theorem nl_len : ("\n" : Str).length = 1 := by decide +kernel
theorem joinN_le (ys : List Str) : (joinN ys).length ≤ (ys.map (·.length)).sum + ys.length * 1 := by
  have e : cl (joinN ys) = joinL (tl ("\n" : Str)) (ys.map tl) := by rw [joinN, join_eq]; exact tl_join "\n" ys
  have e10 : tl ("\n" : Str) = [10] := by decide +kernel
  rw [← cl_len, e, e10]
  clear e
  induction ys with
  | nil => exact Nat.le_refl _
  | cons a l ih =>
    cases l with
    | nil => 
      have : (tl a).length = a.length := cl_len a
      simp [joinL, this]
    | cons b l =>
      have : (tl a).length = a.length := cl_len a
      simp only [List.map_cons, joinL, List.length_append, List.length_cons, List.sum_cons] at ih ⊢
      simp only [this, List.length_nil] at *
      omega
theorem atS_len {a : Option Nat} (h : ∀ x, a = some x → x < 10 ^ 18) : (atS a).length ≤ 18 := by
  cases a with
  | none => decide +kernel
  | some x => exact numS_len (h x rfl)
theorem shutS_len (b : Bool) : (shutS b).length ≤ 18 := by cases b <;> decide +kernel
theorem mkR_len {x : Str} {u : Tm} (hx : x.length ≤ 16) (h : tmOk u) : (mkR (x, u)).length ≤ 7000 := by
  have := tm_row_len h
  have l1 : ("maker " : Str).length = 6 := by decide +kernel
  have l2 : (" " : Str).length = 1 := by decide +kernel
  show (row ("maker" :: x :: cwords u)).length ≤ 7000
  rw [maker_row, len_app, len_app, len_app]
  omega
mutual
theorem Tr.rows_le : ∀ t : Tr, t.wf → ∀ z ∈ t.rows, z.length ≤ 7000
  | .barred, _, z, hz => by
    unfold Tr.rows at hz
    rw [List.mem_singleton.mp hz]
    exact Nat.le_of_lt (by decide +kernel)
  | .leaf u, h, z, hz => by
    unfold Tr.rows at hz
    rw [List.mem_singleton.mp hz, leaf_row, len_app]
    unfold Tr.wf at h
    have := tm_row_len h
    have l1 : ("leaf " : Str).length = 5 := by decide +kernel
    omega
  | .split p bs, h, z, hz => by
    unfold Tr.rows at hz
    unfold Tr.wf at h
    rcases List.mem_cons.mp hz with rfl | hz
    · have n1 := numS_len (n := p) (by omega)
      have n2 := numS_len (n := bs.length) (by omega)
      have l1 : ("split " : Str).length = 6 := by decide +kernel
      have l2 : (" " : Str).length = 1 := by decide +kernel
      rw [split_row, len_app, len_app, len_app]
      omega
    · exact rowsL_le bs h.2.2 z hz
theorem rowsL_le : ∀ bs : List Tr, wfL bs → ∀ z ∈ rowsL bs, z.length ≤ 7000
  | [], _, z, hz => by unfold rowsL at hz; cases hz
  | b :: bs, h, z, hz => by
    unfold rowsL at hz
    unfold wfL at h
    rcases List.mem_append.mp hz with hz | hz
    · exact Tr.rows_le b h.1 z hz
    · exact rowsL_le bs h.2 z hz
end
theorem type_len {u : Tm} (h : tmOk u) : (row ("type" :: cwords u)).length ≤ 7000 := by
  have := tm_row_len h
  have l1 : ("type " : Str).length = 5 := by decide +kernel
  rw [type_row, len_app]
  omega
theorem Dcl.rows_le : ∀ d : Dcl, d.wf → ∀ z ∈ d.rows, z.length ≤ 7000
  | .kind x many ty mk, h, z, hz => by
    obtain ⟨hx, hm, hty, hmk, hmks⟩ := h
    have hx' := (okW_word (word_cap hx)).2
    unfold Dcl.rows at hz
    rcases List.mem_cons.mp hz with rfl | hz
    · have n1 := numS_len (n := many) (by omega)
      have n2 := numS_len (n := mk.length) (by omega)
      have l1 : ("kind " : Str).length = 5 := by decide +kernel
      have l2 : (" " : Str).length = 1 := by decide +kernel
      rw [kind_row, len_app, len_app, len_app, len_app, len_app]
      omega
    · rcases List.mem_cons.mp hz with rfl | hz
      · exact type_len hty.1
      · obtain ⟨p, hp, rfl⟩ := List.mem_map.mp hz
        exact mkR_len (okW_word (word_cap (hmks p hp).1)).2 (hmks p hp).2.1
  | .fn x ty many at_ tree shut, h, z, hz => by
    obtain ⟨hx, hm, hty, hat, htr, hnb⟩ := h
    have hx' := (okW_word (word_sm hx)).2
    unfold Dcl.rows at hz
    rcases List.mem_cons.mp hz with rfl | hz
    · have n1 := numS_len (n := many) (by omega)
      have n2 := atS_len (a := at_) fun q e => by have := hat q e; omega
      have n3 := shutS_len shut
      have l1 : ("function" : Str).length = 8 := by decide +kernel
      have l2 : (" " : Str).length = 1 := by decide +kernel
      rw [row_cons2, row_cons2, row_cons2, row_cons2, row_one]
      simp only [len_app]
      omega
    · rcases List.mem_cons.mp hz with rfl | hz
      · exact type_len hty.1
      · exact Tr.rows_le tree htr z hz
theorem text_len {d : Dcl} (h : d.wf) : d.text.length ≤ 7001 * d.rows.length := Nat.le_trans (joinN_le _) (join_sum (d.rows_le h))
structure rDT (K : PySem.W.Frag) (CB : Addr) (vs : List V) (H : Hp) (Q : VK) (E : XK) : Prop where
  ex : ∃ v, vs = [v] ∧ ((∃ d : Dcl, Dt K H v d.pd ∧ d.wf ∧ d.rows.length ≤ 1000 ∧ ∀ H', Same H H' → Q (.str d.text) H') ∨ (badD K H v ∧ ∀ H', Same H H' → E (.ref CB) none H'))
def spDT (K : PySem.W.Frag) (CB : Addr) : Sp := fun vs H Q E => rDT K CB vs H Q E
theorem if_at {K : PySem.W.Frag} {σ : L2.St} {a : Addr} {xs : List V} {at_ : Option Nat} {H : Hp} {Q : VK} (hσ : σ[0]? = some (some (.ref a))) (hT : SqT K H a xs) (h4 : xs[4]? = some (atV at_)) (hs : ∀ x, at_ = some x → x < 10 ^ 18) (k : Q (.str (atS at_)) H) :
    tIf (tTest (tOp (fun x y H Q => y = .non ∧ Q (.bl (decide (x = .non))) H) (tOp (rIx K) (tVar 0) (tC (.int 4))) (tC .non))) (tC (.str "none")) (tCB (fun xs H Q => ∃ i : Int, xs = [.int i] ∧ i.natAbs.log2 < 1920 ∧ Q (.str (Str.ofString (toString i))) H) (tCons (tOp (rIx K) (tVar 0) (tC (.int 4))) tNil)) σ H Q := by
  cases at_ with
  | none => exact ⟨_, hσ, ixt (i := 4) hT h4 ⟨rfl, _, rfl, iteT k⟩⟩
  | some q =>
    have hq := hs q rfl
    exact ⟨_, hσ, ixt (i := 4) hT h4 ⟨rfl, _, rfl, iteF ⟨_, hσ, ixt (i := 4) hT h4 ⟨_, rfl, log_small (by omega) (by omega), k⟩⟩⟩⟩
theorem if_shut {K : PySem.W.Frag} {σ : L2.St} {a : Addr} {xs : List V} {b : Bool} {H : Hp} {Q : VK} (hσ : σ[0]? = some (some (.ref a))) (hT : SqT K H a xs) (h6 : xs[6]? = some (.bl b)) (k : Q (.str (shutS b)) H) :
    tIf (tB (tOp (rIx K) (tVar 0) (tC (.int 6)))) (tC (.str "shut")) (tC (.str "open")) σ H Q := by
  refine ⟨_, hσ, ixt (i := 6) hT h6 ⟨_, rfl, ?_⟩⟩
  cases b
  · exact iteF k
  · exact iteT k
section
variable {P : Program} {w : World} {K : PySem.W.Frag} {mg : Str → Option Value} {base : Heap}
theorem sc_declared_text : FnScope ["declaration", "at", "shut", "rows", "name", "type_here"] ["declaration"] (defScope s_declared_text) := ⟨rfl, rfl, rfl, by decide +kernel, rfl, by decide +kernel, by decide +kernel⟩
theorem ok_declared_text {CB CD f : Addr} {fd : FuncData} (F : Fun K "declared_text" "declared_text" s_declared_text f fd) (O : Own1 K mg "BadDeclaration" CD) (n_str : mg "str" = none) (n_len : mg "len" = none)
    (Dis_declaration : Df P w K mg base "is_declaration" 7 ["value"] (spDecl K)) (Dterm_text : DfX P w K mg base "term_text" 203 ["term"] (spTT K CB 200)) (Dtree_rows : DfX P w K mg base "tree_rows" 204 ["tree"] (spTR K)) : FnOk P w K mg base (L2.CX P w) 205 f fd ["declaration"] (spDT K CD) := by
  obtain ⟨x_BadDeclaration, g_BadDeclaration, q_BadDeclaration, b_BadDeclaration, t_BadDeclaration⟩ := O
  refine F.okX sc_declared_text (fun vs H Q E h => ?_) (fun cdv A outer s H vs Q E hr h => ?_)
  · obtain ⟨v, rfl, _⟩ := h.ex; rfl
  · obtain ⟨v, rfl, h2⟩ := h.ex; clear h
    have nd := sc_declared_text.nd
    refine ⟨_, (pss_cons (ps_if (pt_not (pt_val (pe_df Dis_declaration hr (by omega) (pa_cons (pv 0) pa_nil))))
        (pss_one (ps_raise rfl (takes_of rfl rfl rfl rfl) (pmk_own PySem.F.excBase_ValueError x_BadDeclaration g_BadDeclaration q_BadDeclaration (raises_own b_BadDeclaration t_BadDeclaration) rfl)))
        pss_nil)
      (pss_cons (ps_if (pt_cmpR (uEq hr.units) (pe_ix ix_seq (pv 0) pe_int (fun _ _ => rfl)) pe_str (nomark _))
        (pss_cons (ps_set (i := 3) nd rfl (Or.inl rfl) (pe_lstN (pa_cons (pe_op uAdd (pe_op uAdd (pe_op uAdd (pe_op uAdd (pe_op uAdd pe_str (pe_ix ix_seq (pv 0) pe_int (fun _ _ => rfl))) pe_str) (pe_callTy call_str_int (by rfl) n_str (by decide +kernel) (pa_cons (pe_ix ix_seq (pv 0) pe_int (fun _ _ => rfl)) pa_nil))) pe_str) (pe_callTy call_str_int (by rfl) n_str (by decide +kernel) (pa_cons (pe_callB uLen (by rfl) n_len (by decide +kernel) (pa_cons (pe_ix ix_seq (pv 0) pe_int (fun _ _ => rfl)) pa_nil)) pa_nil))) pa_nil)))
        (pss_cons (ps_expr (pe_bm PySem.F.plainAttrs_list PySem.F.slot_list_append PySem.F.type_list_append mt_append (pv 3) (pa_cons (pe_op uAdd pe_str (pe_dfX Dterm_text hr (by omega) (passes_call (takes_of rfl rfl rfl rfl) fun _ _ _ _ h => h) (pa_cons (pe_ix ix_seq (pv 0) pe_int (fun _ _ => rfl)) pa_nil))) pa_nil)))
        (pss_one (ps_ret (pe_join pe_str (pe_op uAdd (pv 3) (pe_lc (own := [("name", 4), ("type_here", 5)]) (g := gTup K 2 (gCons (gName 4) (gCons (gName 5) gNil))) rfl nd (pi_seq (pe_ix ix_seq (pv 0) pe_int (fun _ _ => rfl))) (blkOk_by (own := [("name", 4), ("type_here", 5)]) (N := ["declaration", "at", "shut", "rows", "name", "type_here"]) (sc := defScope s_declared_text) (by decide +kernel)) (fun _ _ _ _ _ => (pg_tup rfl (pgs_cons (pg_name (i := 4) nd rfl (Or.inl rfl)) (pgs_cons (pg_name (i := 5) nd rfl (Or.inl rfl)) pgs_nil)))) (fun _ _ _ _ _ => pts_nil) (fun _ _ _ _ _ => (pe_op (uAddK (K := K) rfl) (pe_op (uAddK (K := K) rfl) (pe_op (uAddK (K := K) rfl) pe_str (pv 4)) pe_str) (pe_dfX Dterm_text hr (by omega) passX0 (pa_cons (pv 5) pa_nil)))))))))))
        pss_nil)
      (pss_cons (ps_set (i := 1) nd rfl (Or.inl rfl) (pe_ifExp (pt_cmpR op_isN (pe_ix ix_seq (pv 0) pe_int (fun _ _ => rfl)) pe_non (nomark _)) pe_str (pe_callTy call_str_int (by rfl) n_str (by decide +kernel) (pa_cons (pe_ix ix_seq (pv 0) pe_int (fun _ _ => rfl)) pa_nil))))
      (pss_cons (ps_set (i := 2) nd rfl (Or.inl rfl) (pe_ifExp (pt_val (pe_ix ix_seq (pv 0) pe_int (fun _ _ => rfl))) pe_str pe_str))
      (pss_cons (ps_set (i := 3) nd rfl (Or.inl rfl) (pe_lstN (pa_cons (pe_join pe_str (pe_lstN (pa_cons pe_str (pa_cons (pe_ix ix_seq (pv 0) pe_int (fun _ _ => rfl)) (pa_cons (pe_callTy call_str_int (by rfl) n_str (by decide +kernel) (pa_cons (pe_ix ix_seq (pv 0) pe_int (fun _ _ => rfl)) pa_nil)) (pa_cons (pv 1) (pa_cons (pv 2) pa_nil))))))) (pa_cons (pe_op uAdd pe_str (pe_dfX Dterm_text hr (by omega) (passes_call (takes_of rfl rfl rfl rfl) fun _ _ _ _ h => h) (pa_cons (pe_ix ix_seq (pv 0) pe_int (fun _ _ => rfl)) pa_nil))) pa_nil))))
      (pss_one (ps_ret (pe_join pe_str (pe_op uAdd (pv 3) (pe_dfX Dtree_rows hr (by omega) (passes_call (takes_of rfl rfl rfl rfl) fun _ _ _ _ h => h) (pa_cons (pe_ix ix_seq (pv 0) pe_int (fun _ _ => rfl)) pa_nil))))))))))), ?_⟩
    rcases h2 with ⟨d, hv, wf, hn, k⟩ | ⟨hb, k⟩
    · refine ⟨_, rfl, ⟨_, rfl, .inl ⟨d, hv, wf, hn, fun H1 e1 => ⟨_, rfl, iteF ?_⟩⟩⟩⟩
      have hrows := d.rows_le wf
      cases d with
      | kind x many ty mk =>
        unfold Dcl.pd at hv
        obtain ⟨a, xs, rfl, hT, hD⟩ := (hv.same e1).tupI
        obtain ⟨v1, r1, rfl, d1, hD⟩ := hD.consI
        obtain ⟨v2, r2, rfl, d2, hD⟩ := hD.consI
        obtain ⟨v3, r3, rfl, d3, hD⟩ := hD.consI
        obtain ⟨v4, r4, rfl, d4, hD⟩ := hD.consI
        obtain ⟨v5, r5, rfl, d5, hD⟩ := hD.consI
        obtain rfl := hD.nilI
        obtain rfl := d1.strI
        obtain rfl := d2.strI
        obtain rfl := d3.intI
        obtain ⟨a5, xs5, rfl, hT5, hD5⟩ := d5.tupI
        obtain ⟨hx, hm, hty, hmk, hmks⟩ := wf
        have hx' := (okW_word (word_cap hx)).2
        have lx : xs5.length = mk.length := by rw [hD5.length, List.length_map]
        have hn' : mk.length + 2 ≤ 1000 := by unfold Dcl.rows at hn; simp at hn; omega
        have n1 : (Str.ofString (toString ((many : Nat) : Int))).length ≤ 18 := numS_len (n := many) (by omega)
        have n2 : (Str.ofString (toString ((mk.length : Nat) : Int))).length ≤ 18 := numS_len (n := mk.length) (by omega)
        have l1 : ("kind " : Str).length = 5 := by decide +kernel
        have l2 : (" " : Str).length = 1 := by decide +kernel
        refine ⟨_, rfl, ixt (i := 0) hT rfl (eq_str (b := true) (by decide +kernel) ⟨_, rfl, iteT ?_⟩)⟩
        refine ⟨_, rfl, ixt (i := 1) hT rfl (add_s (line_of (by omega)) (add_s (line_of (by rw [len_app]; omega)) ⟨_, rfl, ixt (i := 2) hT rfl ⟨_, rfl, log_small (by omega) (by omega), add_s (line_of (by rw [len_app, len_app]; omega)) (add_s (line_of (by rw [len_app, len_app, len_app]; omega)) ⟨_, rfl, ixt (i := 4) hT rfl ⟨_, mk.length, rfl, .inr ⟨_, hT5, lx.symm⟩, ⟨_, rfl, log_small (by omega) (by omega), add_s (line_of (by rw [len_app, len_app, len_app, len_app]; omega)) ?_⟩⟩⟩)⟩⟩))⟩
        refine lst_new (xs := [.str ("kind " ++ x ++ " " ++ numS many ++ " " ++ numS mk.length)]) (Nat.le_add_left 1 999) fun lr nlr => ?_
        rw [← kind_row]
        have e2 : Same H1 (upd H1 lr (.lst [.str (row ["kind", x, numS many, numS mk.length])])) := same_new nlr
        have h2 : upd H1 lr (.lst [.str (row ["kind", x, numS many, numS mk.length])]) lr = some (.lst [.str (row ["kind", x, numS many, numS mk.length])]) := upd_same
        generalize upd H1 lr (.lst [.str (row ["kind", x, numS many, numS mk.length])]) = H2 at e2 h2 ⊢
        have hT2 := sqs hT e2
        have lty := depth_le ty
        have ltz := hty.1.2
        have lrow := tm_row_len hty.1
        have l5 : ("type " : Str).length = 5 := by decide +kernel
        have lrow' : (Txt.join " " (cwords ty)).length ≤ 6500 := lrow
        refine ⟨_, rfl, .inl ⟨rfl, _, SqL.of h2⟩, _, rfl, ixt (i := 3) hT2 rfl ⟨v4, rfl, .inl ⟨ty, d4.same e2, hty.1.1, by omega, by omega, fun H3 e3 => ?_⟩⟩⟩
        refine add_s (by rw [sizeLine_eq]; omega) ⟨lr, [.str (row ["kind", x, numS many, numS mk.length])], .str ("type " ++ row (cwords ty)), rfl, rfl, e3 _ _ h2, lt_line (Nat.le_add_left 1 999), ?_⟩
        rw [← type_row]
        have t4 : TK K H3 (upd H3 lr (.lst ([.str (row ["kind", x, numS many, numS mk.length])] ++ [.str (row ("type" :: cwords ty))]))) := TK.lst (e3 _ _ h2)
        have h4 : upd H3 lr (.lst ([.str (row ["kind", x, numS many, numS mk.length])] ++ [.str (row ("type" :: cwords ty))])) lr = some (.lst ([.str (row ["kind", x, numS many, numS mk.length])] ++ [.str (row ("type" :: cwords ty))])) := upd_same
        have e4 : Same H (upd H3 lr (.lst ([.str (row ["kind", x, numS many, numS mk.length])] ++ [.str (row ("type" :: cwords ty))]))) := same_mut (e1.trans (e2.trans e3)) (e1.free nlr)
        generalize upd H3 lr (.lst ([.str (row ["kind", x, numS many, numS mk.length])] ++ [.str (row ("type" :: cwords ty))])) = H4 at t4 h4 e4 ⊢
        have hT4 := t4 _ _ (sqs hT2 e3)
        have hT54 := t4 _ _ (sqs (sqs hT5 e2) e3)
        have hD4 := DtAll.keep t4 _ (DtAll.keep (TK.same (e2.trans e3)) _ hD5)
        refine ⟨⟨_, rfl⟩, _, rfl, _, rfl, ixt (i := 4) hT4 rfl ⟨a5, rfl, .inr ⟨⟨xs5, hT54⟩, fun D nD => lc_tup (K := K) (a := a5) (xs := xs5) (fun i H5 => Same H4 H5 ∧ H5 D = some (.lst ((mk.take i).map fun p => V.str (mkR p)))) ⟨same_new nD, upd_same⟩ (fun i H5 _ ⟨c1, _⟩ => sqs hT54 c1) (fun i vx H5 hi ⟨c1, hD⟩ => ?_) (fun H6 ⟨c1, hD⟩ => ?_)⟩⟩⟩
        · obtain ⟨dm, hdm, dx⟩ := (DtAll.keep (TK.same c1) _ hD4).get hi
          rw [List.getElem?_map] at hdm
          obtain ⟨mp, hmp, rfl⟩ := Option.map_eq_some_iff.mp hdm
          obtain ⟨hcm, hck⟩ := hmks mp (List.mem_of_getElem? hmp)
          have hil : i < mk.length := (List.getElem?_eq_some_iff.mp hmp).1
          unfold mkD at dx
          obtain ⟨am, xm, rfl, hTm, hDm⟩ := dx.tupI
          obtain ⟨w1, q1, rfl, f1, hDm⟩ := hDm.consI
          obtain ⟨w2, q2, rfl, f2, hDm⟩ := hDm.consI
          obtain rfl := hDm.nilI
          obtain rfl := f1.strI
          have hy' := (okW_word (word_cap hcm)).2
          have hwl := hck.1.2
          have hdp := depth_le mp.2
          have hrl := tm_row_len hck.1
          have hrl' : (Txt.join " " (cwords mp.2)).length ≤ 6500 := hrl
          have l6 : ("maker " : Str).length = 6 := by decide +kernel
          refine ⟨am, _, rfl, hTm, rfl, _, _, rfl, _, _, rfl, rfl, rfl, _, rfl, add_s (line_of (by omega)) (add_s (line_of (by rw [len_app]; omega)) ⟨_, rfl, w2, rfl, .inl ⟨mp.2, f2, hck.1.1, by omega, by omega, fun H6 e6 => add_s (by rw [sizeLine_eq, len_app, len_app]; omega) ⟨_, e6 _ _ hD, lt_line (by rw [List.length_map, List.length_take]; omega), sameL (c1.trans e6) nD, ?_⟩⟩⟩)⟩
          rw [List.take_succ, hmp, List.map_append]
          have e7 : row ("maker" :: mp.1 :: cwords mp.2) = "maker " ++ mp.1 ++ " " ++ Txt.join " " (cwords mp.2) := maker_row mp.1 mp.2
          rw [← e7]
          exact upd_same
        · rw [lx, List.take_length] at hD
          refine add_l (c1 _ _ h4) hD (by rw [sizeLine_eq, List.length_map]; show 2 + mk.length ≤ _; omega) fun p np => ?_
          have ey : ([V.str (row ["kind", x, numS many, numS mk.length])] ++ [V.str (row ("type" :: cwords ty))] ++ mk.map fun p => V.str (mkR p)) = ((Dcl.kind x many ty mk).rows).map V.str := by
            unfold Dcl.rows
            rw [List.map_cons, List.map_cons, List.map_map]
            rfl
          rw [ey]
          refine ⟨"\n", p, _, rfl, rfl, .inl (SqL.of upd_same), ?_, k _ ((e4.trans c1).trans (same_new np))⟩
          have := join_sum hrows
          rw [nl_len]
          omega
      | fn x ty many at_ tree shut =>
        unfold Dcl.pd at hv
        obtain ⟨a, xs, rfl, hT, hD⟩ := (hv.same e1).tupI
        obtain ⟨v1, r1, rfl, d1, hD⟩ := hD.consI
        obtain ⟨v2, r2, rfl, d2, hD⟩ := hD.consI
        obtain ⟨v3, r3, rfl, d3, hD⟩ := hD.consI
        obtain ⟨v4, r4, rfl, d4, hD⟩ := hD.consI
        obtain ⟨v5, r5, rfl, d5, hD⟩ := hD.consI
        obtain ⟨v6, r6, rfl, d6, hD⟩ := hD.consI
        obtain ⟨v7, r7, rfl, d7, hD⟩ := hD.consI
        obtain rfl := hD.nilI
        obtain rfl := d1.strI
        obtain rfl := d2.strI
        obtain rfl := d4.intI
        cases d7
        obtain ⟨hx, hm, hty, hat, htr, hnb⟩ := wf
        obtain rfl : v5 = atV at_ := by
          cases at_ with
          | none => cases d5; rfl
          | some q => exact d5.intI
        have hx' := (okW_word (word_sm hx)).2
        have hn' : tree.rows.length + 2 ≤ 1000 := by unfold Dcl.rows at hn; simp at hn; omega
        have n1 : (Str.ofString (toString ((many : Nat) : Int))).length ≤ 18 := numS_len (n := many) (by omega)
        have hat' : ∀ q, at_ = some q → q < 10 ^ 18 := fun q e => by have := hat q e; omega
        have lty := depth_le ty
        have ltz := hty.1.2
        have lrow := tm_row_len hty.1
        have l5 : ("type " : Str).length = 5 := by decide +kernel
        have lrow' : (Txt.join " " (cwords ty)).length ≤ 6500 := lrow
        refine ⟨_, rfl, ixt (i := 0) hT rfl (eq_str (b := false) (by decide +kernel) ⟨_, rfl, iteF ?_⟩)⟩
        refine if_at (K := K) rfl hT rfl hat' ?_
        refine if_shut (K := K) rfl hT rfl ?_
        refine ⟨⟨_, rfl⟩, _, rfl, ixt (i := 1) hT rfl ⟨_, rfl, ixt (i := 3) hT rfl ⟨_, rfl, log_small (by omega) (by omega), ⟨_, rfl, _, rfl, lst_new (xs := (["function", x, numS many, atS at_, shutS shut] : List Str).map V.str) (Nat.le_add_left 5 995) fun la nla => ⟨" ", la, _, rfl, rfl, .inl (SqL.of upd_same), ?_, ?_⟩⟩⟩⟩⟩
        · have m1 : (numS many).length ≤ 18 := n1
          have m2 := atS_len hat'
          have m3 := shutS_len shut
          have m4 : ("function" : Str).length = 8 := by decide +kernel
          have m5 : (" " : Str).length = 1 := by decide +kernel
          rw [m5]
          simp only [List.map_cons, List.map_nil, List.sum_cons, List.sum_nil, List.length_cons, List.length_nil, m4]
          omega
        have e2 : Same H1 (upd H1 la (.lst ((["function", x, numS many, atS at_, shutS shut] : List Str).map V.str))) := same_new nla
        generalize upd H1 la (.lst ((["function", x, numS many, atS at_, shutS shut] : List Str).map V.str)) = H2 at e2 ⊢
        have hT2 := sqs hT e2
        refine ⟨_, rfl, ixt (i := 2) hT2 rfl ⟨v3, rfl, .inl ⟨ty, d3.same e2, hty.1.1, by omega, by omega, fun H3 e3 => ?_⟩⟩⟩
        refine add_s (by rw [sizeLine_eq]; omega) (lst_new (xs := [.str (row ["function", x, numS many, atS at_, shutS shut]), .str ("type " ++ row (cwords ty))]) (Nat.le_add_left 2 998) fun lr nlr => ?_)
        rw [← type_row]
        have e13 := e1.trans (e2.trans e3)
        have h4 : upd H3 lr (.lst [.str (row ["function", x, numS many, atS at_, shutS shut]), .str (row ("type" :: cwords ty))]) lr = some (.lst [.str (row ["function", x, numS many, atS at_, shutS shut]), .str (row ("type" :: cwords ty))]) := upd_same
        have e4 : Same H3 (upd H3 lr (.lst [.str (row ["function", x, numS many, atS at_, shutS shut]), .str (row ("type" :: cwords ty))])) := same_new nlr
        generalize upd H3 lr (.lst [.str (row ["function", x, numS many, atS at_, shutS shut]), .str (row ("type" :: cwords ty))]) = H4 at e4 h4 ⊢
        have hT4 := sqs (sqs hT2 e3) e4
        refine ⟨⟨_, rfl⟩, _, rfl, _, rfl, ixt (i := 5) hT4 rfl ⟨v6, tree, rfl, d6.same (e2.trans (e3.trans e4)), htr, by omega, fun p H5 e5 np hp => ?_⟩⟩
        have e15 := e13.trans (e4.trans e5)
        refine add_l (e5 _ _ h4) hp (by rw [sizeLine_eq, List.length_map]; show 2 + tree.rows.length ≤ _; omega) fun q nq => ?_
        have ey : ([V.str (row ["function", x, numS many, atS at_, shutS shut]), V.str (row ("type" :: cwords ty))] ++ tree.rows.map V.str) = ((Dcl.fn x ty many at_ tree shut).rows).map V.str := by
          unfold Dcl.rows
          rw [List.map_cons, List.map_cons]
          rfl
        rw [ey]
        refine ⟨"\n", q, _, rfl, rfl, .inl (SqL.of upd_same), ?_, k _ (e15.trans (same_new nq))⟩
        have := join_sum hrows
        rw [nl_len]
        omega
    · exact ⟨_, rfl, ⟨_, rfl, .inr ⟨hb, ⟨_, rfl, iteT (k _ (Same.refl _))⟩⟩⟩⟩
end
end RS

/-! Good6: what drawn rows are like. -/
namespace RS
open PySem PySem.Spec PyProof.Rows L2 TL

def prt (z : Str) : Prop := ∀ c ∈ cl z, 33 ≤ c ∧ c < 127
instance (z : Str) : Decidable (prt z) := inferInstanceAs (Decidable (∀ c ∈ cl z, _))
theorem prt_app {a b : Str} (h1 : prt a) (h2 : prt b) : prt (a ++ b) := fun c hc => by
  rw [cl_app, List.mem_append] at hc
  exact hc.elim (h1 c) (h2 c)
theorem prt_word {z : Str} (h : isWord z = true) : prt z := fun c hc => by
  obtain ⟨d, ds, e, _, _, _, h2⟩ := word_spec h
  have hall : ((cl allS).all fun d => decide (33 ≤ d ∧ d < 127)) = true := by decide +kernel
  rw [e] at hc
  exact of_decide_eq_true (List.all_eq_true.mp hall c (h2 c hc))
theorem prt_num {n : Nat} (h : n < 10 ^ 18) : prt (numS n) := fun c hc => by
  have := (digB_digits (digB_numS h)).1 c hc
  omega
theorem prt_leaf {t : Tm} (hl : t.isLeaf = true) (h : t.wf) : prt (leafText t) := by
  cases t with
  | num w n =>
    obtain ⟨k, rfl, hk⟩ : ∃ k : Nat, n = k ∧ k < 10 ^ 18 := by
      rcases h with ⟨_, h0, h4⟩ | ⟨_, h0, h1⟩
      · exact ⟨n.toNat, by omega, by omega⟩
      · exact ⟨n.toNat, by omega, by omega⟩
    have hs : prt (signOf w) := by
      unfold signOf
      split
      · decide +kernel
      · split
        · decide +kernel
        · split
          · decide +kernel
          · decide +kernel
    show prt (signOf w ++ numS k)
    exact prt_app hs (prt_num hk)
  | name x => exact prt_word h
  | count x n =>
    obtain ⟨hw, h0, h1⟩ := h
    obtain ⟨k, rfl⟩ : ∃ k : Nat, n = k := ⟨n.toNat, by omega⟩
    show prt (x ++ ":" ++ numS k)
    exact prt_app (prt_app (prt_word hw) (by decide +kernel)) (prt_num (by omega))
  | bin w m a b => cases hl
  | letT a b c => cases hl
  | app f m x => cases hl
theorem prt_mark {m : Str} (h : m ∈ markL) : prt m := by
  simp only [markL, List.mem_cons, List.not_mem_nil, or_false] at h
  rcases h with rfl | rfl | rfl | rfl <;> decide +kernel
theorem prt_words : ∀ t : Tm, t.wf → ∀ z ∈ cwords t, prt z
  | .num w k, h, z, hz => by rw [leaf_words rfl, List.mem_singleton] at hz; rw [hz]; exact prt_leaf rfl h
  | .name x, h, z, hz => by rw [leaf_words rfl, List.mem_singleton] at hz; rw [hz]; exact prt_leaf rfl h
  | .count x k, h, z, hz => by rw [leaf_words rfl, List.mem_singleton] at hz; rw [hz]; exact prt_leaf rfl h
  | .bin w m a b, ⟨hw, hm, ha, hb⟩, z, hz => by
    simp only [cwords, List.mem_append, List.mem_cons, List.not_mem_nil, or_false] at hz
    rcases hz with (((hz | hz) | hz) | hz) | hz
    · rw [hz]; rcases hw with rfl | rfl <;> decide +kernel
    · rw [hz]; exact prt_mark hm
    · exact prt_words a ha z hz
    · exact prt_words b hb z hz
    · rw [hz]; decide +kernel
  | .letT a b c, ⟨ha, hb, hc⟩, z, hz => by
    simp only [cwords, List.mem_append, List.mem_cons, List.not_mem_nil, or_false] at hz
    rcases hz with (((hz | hz) | hz) | hz) | hz
    · rw [hz]; decide +kernel
    · exact prt_words a ha z hz
    · exact prt_words b hb z hz
    · exact prt_words c hc z hz
    · rw [hz]; decide +kernel
  | .app f m x, ⟨hf, hm, hx⟩, z, hz => by
    simp only [cwords, List.mem_append, List.mem_cons, List.not_mem_nil, or_false] at hz
    rcases hz with (((hz | hz) | hz) | hz) | hz
    · rw [hz]; decide +kernel
    · rw [hz]; exact prt_mark hm
    · exact prt_words f hf z hz
    · exact prt_words x hx z hz
    · rw [hz]; decide +kernel
theorem mem_join {d : Nat} {sep : Str} (hs : tl sep = [d]) : ∀ (ws : List Str) (c : Nat), c ∈ cl (Txt.join sep ws) → c = d ∨ ∃ z ∈ ws, c ∈ cl z := by
  have key : ∀ l : List Str, ∀ c ∈ joinL [d] (l.map cl), c = d ∨ ∃ z ∈ l, c ∈ cl z := by
    intro l
    induction l with
    | nil => intro c hc; cases hc
    | cons a l ih =>
      intro c hc
      cases l with
      | nil => exact .inr ⟨a, List.mem_cons_self, hc⟩
      | cons b l =>
        have hc : c ∈ cl a ++ ([d] ++ joinL [d] ((b :: l).map cl)) := hc
        rw [List.mem_append, List.mem_append] at hc
        rcases hc with hc | hc | hc
        · exact .inr ⟨a, List.mem_cons_self, hc⟩
        · simp at hc; exact .inl hc
        · rcases ih c hc with h | ⟨z, hz, h⟩
          · exact .inl h
          · exact .inr ⟨z, List.mem_cons_of_mem _ hz, h⟩
  intro ws c hc
  rw [join_eq] at hc
  have e := tl_join sep ws
  rw [hs] at e
  rw [show cl (Str.join sep ws) = tl (Str.join sep ws) from rfl, e] at hc
  exact key ws c hc
structure goodR (z : Str) : Prop where
  ok : okR z
  nl : 10 ∉ cl z
  as : asc z
theorem row_good {ws : List Str} (hne : ws ≠ []) (h : ∀ p ∈ ws, prt p ∧ p.length ≤ 64) (hl : ws.length ≤ 100) : goodR (row ws) := by
  have h32 : ∀ p ∈ ws, 32 ∉ cl p := fun p hp m => by have := (h p hp).1 32 m; omega
  have e : wsOf (row ws) = ws := join_ws hne h32
  have hsp : tl (" " : Str) = [32] := sp_cl
  refine ⟨⟨by rw [e]; exact hl, fun p hp => ?_⟩, fun m => ?_, fun c hc => ?_⟩
  · rw [e] at hp
    exact ⟨(h p hp).2, fun c hc => by have := (h p hp).1 c hc; omega⟩
  · rcases mem_join hsp ws 10 m with q | ⟨z, hz, q⟩
    · omega
    · have := (h z hz).1 10 q; omega
  · rcases mem_join hsp ws c hc with q | ⟨z, hz, q⟩
    · omega
    · have := (h z hz).1 c q; omega
theorem row_len {ws : List Str} (h : ∀ p ∈ ws, prt p ∧ p.length ≤ 64) : (row ws).length ≤ 65 * ws.length :=
  join_cl_len ws fun p hp => ⟨fun m => by have := (h p hp).1 32 m; omega, (h p hp).2⟩
theorem wd_words {u : Tm} (h : u.wf) : ∀ p ∈ cwords u, prt p ∧ p.length ≤ 64 := fun p hp => ⟨prt_words u h p hp, (okW_words u h p hp).2⟩
theorem wd_cons {a : Str} {ws : List Str} (ha : prt a ∧ a.length ≤ 64) (h : ∀ p ∈ ws, prt p ∧ p.length ≤ 64) : ∀ p ∈ a :: ws, prt p ∧ p.length ≤ 64 := fun p hp => (List.mem_cons.mp hp).elim (fun e => by rw [e]; exact ha) (h p)
theorem wd_nil : ∀ p ∈ ([] : List Str), prt p ∧ p.length ≤ 64 := fun p hp => by cases hp
theorem wd_num {n : Nat} (h : n < 10 ^ 18) : prt (numS n) ∧ (numS n).length ≤ 64 := ⟨prt_num h, Nat.le_trans (numS_len h) (by decide)⟩
theorem wd_word {z : Str} (h : isWord z = true) : prt z ∧ z.length ≤ 64 := ⟨prt_word h, Nat.le_trans (okW_word h).2 (by decide)⟩
/-- a good row, not longer than n -/
def gdR (n : Nat) (z : Str) : Prop := goodR z ∧ z.length ≤ n
theorem gd_row {ws : List Str} {n : Nat} (hne : ws ≠ []) (h : ∀ p ∈ ws, prt p ∧ p.length ≤ 64) (hl : ws.length ≤ 100) (hn : 65 * ws.length ≤ n) : gdR n (row ws) := ⟨row_good hne h hl, Nat.le_trans (row_len h) hn⟩
def nmax : Nat → Nat
  | 0 => 0
  | d + 1 => 1 + 3 * nmax d
theorem nmax_mono {a b : Nat} (h : a ≤ b) : nmax a ≤ nmax b := by
  induction h with
  | refl => exact Nat.le_refl _
  | step _ ih => exact Nat.le_trans ih (by show _ ≤ 1 + 3 * _; omega)
theorem nodes_max : ∀ t : Tm, t.nodes ≤ nmax t.depth
  | .num _ _ => Nat.le_refl 1
  | .name _ => Nat.le_refl 1
  | .count _ _ => Nat.le_refl 1
  | .bin w m a b => by
    have h1 := nodes_max a
    have h2 := nodes_max b
    have m1 := nmax_mono (show a.depth ≤ max a.depth b.depth from Nat.le_max_left _ _)
    have m2 := nmax_mono (show b.depth ≤ max a.depth b.depth from Nat.le_max_right _ _)
    rw [show (Tm.bin w m a b).depth = max a.depth b.depth + 1 from Nat.add_comm 1 _]
    show 1 + (a.nodes + b.nodes) ≤ 1 + 3 * nmax _
    omega
  | .letT a b c => by
    have h1 := nodes_max a
    have h2 := nodes_max b
    have h3 := nodes_max c
    have m1 := nmax_mono (show a.depth ≤ max a.depth (max b.depth c.depth) by omega)
    have m2 := nmax_mono (show b.depth ≤ max a.depth (max b.depth c.depth) by omega)
    have m3 := nmax_mono (show c.depth ≤ max a.depth (max b.depth c.depth) by omega)
    rw [show (Tm.letT a b c).depth = max a.depth (max b.depth c.depth) + 1 from Nat.add_comm 1 _]
    show 1 + (a.nodes + (b.nodes + c.nodes)) ≤ 1 + 3 * nmax _
    omega
  | .app f m x => by
    have h1 := nodes_max f
    have h2 := nodes_max x
    have m1 := nmax_mono (show f.depth ≤ max f.depth x.depth from Nat.le_max_left _ _)
    have m2 := nmax_mono (show x.depth ≤ max f.depth x.depth from Nat.le_max_right _ _)
    rw [show (Tm.app f m x).depth = max f.depth x.depth + 1 from Nat.add_comm 1 _]
    show 1 + (f.nodes + x.nodes) ≤ 1 + 3 * nmax _
    omega
theorem tm3 {t : Tm} (wf : t.wf) (h : t.depth ≤ 3) : tmOk t ∧ (cwords t).length ≤ 26 ∧ Okd t.pd 4 1300 := by
  have h1 := words_le t
  have h2 := wmax_mono h
  have h3 : wmax 3 = 26 := rfl
  have h4 := nodes_max t
  have h5 := nmax_mono h
  have h6 : nmax 3 = 13 := rfl
  exact ⟨⟨wf, by omega⟩, by omega, (t.okd wf).mono (by omega) (by omega)⟩
theorem tm4 {t : Tm} (wf : t.wf) (h : t.depth ≤ 4) : tmOk t ∧ (cwords t).length ≤ 80 ∧ Okd t.pd 4 4000 := by
  have h1 := words_le t
  have h2 := wmax_mono h
  have h3 : wmax 4 = 80 := rfl
  have h4 := nodes_max t
  have h5 := nmax_mono h
  have h6 : nmax 4 = 40 := rfl
  exact ⟨⟨wf, by omega⟩, by omega, (t.okd wf).mono (by omega) (by omega)⟩
end RS

/-! RtT6: _law_rt_tree. -/
namespace RS
open PySem PySem.Spec PyProof.Rows L2 TL

theorem Stt.mut {H : Hp} {d g c p : Addr} {T : Nat} {o : HO} (S : Stt H d g c T) (h1 : p ≠ d) (h2 : p ≠ g) (h3 : p ≠ c) : Stt (upd H p o) d g c T := by
  obtain ⟨gs, cs, l, t, e1, e2, e3, e4, e5⟩ := S.ex
  exact ⟨S.ne, gs, cs, l, t, (upd_ne h1.symm).trans e1, (upd_ne h2.symm).trans e2, (upd_ne h3.symm).trans e3, e4, e5⟩
theorem Ch.mut {d g p : Addr} {H H1 : Hp} {o : HO} (C : Ch d g H H1) (h : H p = none) : Ch d g H (upd H1 p o) := fun b u z1 z2 e => by rw [upd_ne (ne_of_none e h)]; exact C b u z1 z2 e
theorem Stt.fresh6 {H : Hp} {d g c p : Addr} {T : Nat} (S : Stt H d g c T) (h : H p = none) : p ≠ d ∧ p ≠ g ∧ p ≠ c := by
  obtain ⟨_, e1⟩ := S.d
  obtain ⟨_, e2⟩ := S.g
  obtain ⟨gs, cs, l, t, h1, h2, h3, h4, h5⟩ := S.ex
  exact ⟨(ne_of_none e1 h).symm, (ne_of_none e2 h).symm, (ne_of_none h3 h).symm⟩
def cT : Nat → Nat
  | 0 => 0
  | n + 1 => 140 + 3 * (1 + cT n)
def rT : Nat → Nat
  | 0 => 0
  | n + 1 => 1 + 3 * rT n
def wT : Nat → Nat
  | 0 => 0
  | n + 1 => 1500 + 3 * (1 + wT n)
structure GB (N : Nat) (t : Tr) : Prop where
  wf : t.wf
  gd : ∀ z ∈ t.rows, gdR 1760 z
  len : t.rows.length ≤ rT N
  ok : Okd t.pd (2 * N + 6) (wT N)
def GT (N : Nat) (t : Tr) : Prop := GB N t ∧ t ≠ .barred
theorem gb_bar {N : Nat} (h : 1 ≤ N) : GB N .barred := by
  obtain ⟨M, rfl⟩ : ∃ M, N = M + 1 := ⟨N - 1, by omega⟩
  refine ⟨by unfold Tr.wf; trivial, fun z hz => ?_, ?_, ?_⟩
  · unfold Tr.rows at hz
    rw [List.mem_singleton.mp hz]
    exact gd_row (ws := ["barred"]) (fun q => by cases q) (wd_cons (by decide +kernel) wd_nil) (by decide) (by decide)
  · show 1 ≤ 1 + 3 * rT M; omega
  · have : Okd PyData.none 0 0 := ⟨rfl, rfl, Nat.le_refl _, rfl, Nat.le_refl _⟩
    exact this.mono (Nat.zero_le _) (Nat.zero_le _)
theorem gt_leaf {N : Nat} (h : 1 ≤ N) {u : Tm} (wf : u.wf) (hd : u.depth ≤ 3) : GT N (.leaf u) := by
  obtain ⟨M, rfl⟩ : ∃ M, N = M + 1 := ⟨N - 1, by omega⟩
  obtain ⟨h1, h2, h3⟩ := tm3 wf hd
  refine ⟨⟨by unfold Tr.wf; exact h1, fun z hz => ?_, ?_, ?_⟩, fun q => by cases q⟩
  · unfold Tr.rows at hz
    rw [List.mem_singleton.mp hz]
    exact gd_row (fun q => by cases q) (wd_cons (by decide +kernel) (wd_words wf)) (by rw [List.length_cons]; omega) (by rw [List.length_cons]; omega)
  · show 1 ≤ 1 + 3 * rT M; omega
  · have o : Okd (Tr.leaf u).pd 5 1400 := by
      unfold Tr.pd
      exact (OkdA.tup (OkdA.cons (Okd.str (D := 4) (W := 10) (by decide +kernel) (by decide +kernel)) (.cons h3 .nil))).mono (Nat.le_refl _) (by omega)
    refine o.mono (by omega) ?_
    show 1400 ≤ 1500 + 3 * (1 + wT M); omega
theorem gt_split {M : Nat} {p : Nat} {bs : List Tr} (hp : p ≤ 1000000) (hl : bs.length ≤ 3) (h : ∀ b ∈ bs, GB M b) : GT (M + 1) (.split p bs) := by
  refine ⟨⟨by unfold Tr.wf; exact ⟨hp, by omega, (wfL_iff bs).mpr fun b hb => (h b hb).wf⟩, fun z hz => ?_, ?_, ?_⟩, fun q => by cases q⟩
  · unfold Tr.rows at hz
    rcases List.mem_cons.mp hz with rfl | hz
    · exact gd_row (fun q => by cases q) (wd_cons (by decide +kernel) (wd_cons (wd_num (by omega)) (wd_cons (wd_num (by omega)) wd_nil))) (by show 3 ≤ 100; decide) (by show 65 * 3 ≤ 1760; decide)
    · rw [rowsL_map, List.mem_flatMap] at hz
      obtain ⟨b, hb, hz⟩ := hz
      exact (h b hb).gd z hz
  · have e : (Tr.split p bs).rows.length = sumR bs + 1 := by rw [Tr.rows, List.length_cons, sumR_rowsL]
    rw [e]
    have k : ∀ l : List Tr, (∀ b ∈ l, GB M b) → sumR l ≤ l.length * rT M := fun l => by
      induction l with
      | nil => intro _; exact Nat.zero_le _
      | cons a l ih =>
        intro hl
        have h1 := (hl a List.mem_cons_self).len
        have h2 := ih fun b hb => hl b (List.mem_cons_of_mem _ hb)
        unfold sumR at h2 ⊢
        rw [List.map_cons, List.sum_cons, List.length_cons, Nat.succ_mul]
        omega
    have h1 := k bs h
    have h2 : bs.length * rT M ≤ 3 * rT M := Nat.mul_le_mul_right _ hl
    show sumR bs + 1 ≤ 1 + 3 * rT M
    omega
  · unfold Tr.pd
    rw [pdL_map]
    have a1 : OkdA (bs.map Tr.pd) (2 * M + 6) ((bs.map Tr.pd).length * (wT M + 1)) := OkdA.all _ fun d hd => by
      obtain ⟨b, hb, rfl⟩ := List.mem_map.mp hd
      exact (h b hb).ok
    have h2 : (bs.map Tr.pd).length * (wT M + 1) ≤ 3 * (wT M + 1) := Nat.mul_le_mul_right _ (by rw [List.length_map]; exact hl)
    have a2 := a1.tup
    refine (OkdA.tup (OkdA.cons (Okd.str (D := 2 * M + 7) (W := 10) (by decide +kernel) (by decide +kernel)) (.cons (Okd.int (by omega)) (.cons a2 .nil)))).mono (by omega) ?_
    show _ ≤ 1500 + 3 * (1 + wT M)
    omega
def spRtT (K : PySem.W.Frag) (N : Nat) : Sp := fun vs H Q _ => ∃ (d g c : Addr) (T : Nat) (deep : Int), vs = [.ref d, .int deep] ∧ Stt H d g c T ∧ T + cT N ≤ topT ∧ 1 ≤ deep ∧ deep ≤ N ∧
  ∀ (t : Tr) v H', Ch d g H H' → Stt H' d g c (T + cT N) → Dt K H' v t.pd → GT N t → Q v H'
section
variable {P : Program} {w : World} {K : PySem.W.Frag} {mg : Str → Option Value} {base : Heap}
theorem sc_law_rt_tree : FnScope ["state", "deep", "branches", "turn"] ["state", "deep"] (defScope s_law_rt_tree) := ⟨rfl, rfl, rfl, by decide +kernel, rfl, by decide +kernel, by decide +kernel⟩
theorem tree_none {f : Addr} {fd : FuncData} : FnOk P w K mg base CX0 7 f fd ["state", "deep"] (spRtT K 0) := by
  refine ⟨fun vs H Q E h => ?_, fun A outer s H args us vs Q E _ _ _ _ h => ?_⟩
  · obtain ⟨d, g, c, T, deep, rfl, _⟩ := h; rfl
  · obtain ⟨d, g, c, T, deep, _, _, _, h1, h2, _⟩ := h
    exact absurd (show deep ≤ 0 from h2) (by omega)
theorem ok_rt_tree {f : Addr} {fd : FuncData} (F : Fun K "_law_rt_tree" "_law_rt_tree" s_law_rt_tree f fd) (hm : mg "_law_rt_tree" = some (.ref f)) (b : Binds K fd ["state", "deep"] []) (n_range : mg "range" = none) (n_tuple : mg "tuple" = none)
    (D_law_draw : Df P w K mg base "_law_draw" 2 ["state", "size_here"] spDraw) (D_law_pick : Df P w K mg base "_law_pick" 3 ["state", "several"] spPick) (D_law_rt_term : Df P w K mg base "_law_rt_term" 6 ["state", "deep", "ahead"] (spTerm K 3)) : ∀ N, FnOk P w K mg base CX0 (N + 7) f fd ["state", "deep"] (spRtT K N)
  | 0 => tree_none
  | N + 1 => by
    have D_law_rt_tree : Df P w K mg base "_law_rt_tree" (N + 7) ["state", "deep"] (spRtT K N) := ⟨f, fd, ok_rt_tree F hm b n_range n_tuple D_law_draw D_law_pick D_law_rt_term N, hm, F.kp, b⟩
    refine F.ok sc_law_rt_tree (fun vs H Q E h => ?_) (fun cdv A outer s H vs Q E hr h => ?_)
    · obtain ⟨d, g, c, T, deep, rfl, _⟩ := h; rfl
    · obtain ⟨d, g, c, T, deep, rfl, S, hT, d1, dN, k⟩ := h
      have nd := sc_law_rt_tree.nd
      have ec : cT (N + 1) = 140 + 3 * (1 + cT N) := rfl
      have c3 : cost 3 = 130 := rfl
      rw [ec] at hT k
      refine ⟨_, (pss_cons (ps_if (pt_w (PW.pt (pw_or (pt_cmpR op_lt (pv 1) pe_int (nomark _)) (pw_or1 (pt_cmpR (uEq hr.units) (pe_df D_law_draw hr (by omega) (pa_cons (pv 0) (pa_cons pe_int pa_nil))) pe_int (nomark _))))))
        (pss_one (ps_ret (pe_tupN (pa_cons pe_str (pa_cons (pe_df D_law_rt_term hr (by omega) (pa_cons (pv 0) (pa_cons pe_int (pa_cons pe_int pa_nil)))) pa_nil)))))
        pss_nil)
      (pss_cons (ps_set (i := 2) nd rfl (Or.inl rfl) (pe_lstN pa_nil))
      (pss_cons (ps_for PassesOwn.never rfl (pi_range1 rfl n_range (pa_cons (pe_df D_law_draw hr (by omega) (pa_cons (pv 0) (pa_cons pe_int pa_nil))) pa_nil)) (pg_name (i := 3) nd rfl (Or.inl rfl))
        (pss_one (ps_expr (pe_bm PySem.F.plainAttrs_list PySem.F.slot_list_append PySem.F.type_list_append mt_append (pv 2) (pa_cons (pe_ifExp (pt_cmpR (uEq hr.units) (pe_df D_law_draw hr (by omega) (pa_cons (pv 0) (pa_cons pe_int pa_nil))) pe_int (nomark _)) pe_non (pe_df D_law_rt_tree hr (by omega) (pa_cons (pv 0) (pa_cons (pe_op op_sub (pv 1) pe_int) pa_nil)))) pa_nil)))))
      (pss_one (ps_ret (pe_tupN (pa_cons pe_str (pa_cons (pe_df D_law_pick hr (by omega) (pa_cons (pv 0) (pa_cons (pe_lstN (pa_cons pe_int (pa_cons pe_int (pa_cons (pe_op op_pow pe_int pe_int) (pa_cons (pe_df D_law_draw hr (by omega) (pa_cons (pv 0) (pa_cons pe_int pa_nil))) pa_nil))))) pa_nil))) (pa_cons (pe_callTy call_tuple_of (by rfl) n_tuple (by decide +kernel) (pa_cons (pv 2) pa_nil)) pa_nil))))))))), ?_⟩
      refine ⟨⟨_, rfl, _, _, rfl, rfl, _, rfl, ite2 (fun hd2 => ?_) (fun hd2 => ?_)⟩⟩
      · refine ⟨_, rfl, d, g, c, T, 3, 0, rfl, S, by rw [c3]; omega, by decide, by decide, by decide, by decide, fun u vu H2 C2 S2 hu wf dp => tup_new (K := K) (ds := [.str "leaf", u.pd]) (.cons (.str _) (.cons hu .nil)) (by show 2 ≤ 1000; decide) fun v2 H3 e3 d3 => ?_⟩
        rw [c3] at S2
        exact k (.leaf u) v2 H3 (C2.ofSame e3) ((S2.keep e3).mono (by omega)) (by unfold Tr.pd; exact d3) (gt_leaf (by omega) wf (by omega))
      · refine ⟨_, rfl, d, g, c, T, 3, rfl, S, by omega, by decide, by decide, fun r0 H1 C1 S1 r00 r01 => eq_f rfl rfl ⟨_, rfl, ite2 (fun hz => ?_) (fun hz => ?_)⟩⟩
        · refine ⟨_, rfl, d, g, c, T + 1, 3, 0, rfl, S1, by rw [c3]; omega, by decide, by decide, by decide, by decide, fun u vu H2 C2 S2 hu wf dp => tup_new (K := K) (ds := [.str "leaf", u.pd]) (.cons (.str _) (.cons hu .nil)) (by show 2 ≤ 1000; decide) fun v2 H3 e3 d3 => ?_⟩
          rw [c3] at S2
          exact k (.leaf u) v2 H3 ((C1.trans C2).ofSame e3) ((S2.keep e3).mono (by omega)) (by unfold Tr.pd; exact d3) (gt_leaf (by omega) wf (by omega))
        · have hd3 : ¬ deep < 2 := fun q => hd2 (decide_eq_true q)
          refine lst_new (Nat.zero_le _) fun lb nlb => ?_
          have nb := C1.free S1 nlb
          obtain ⟨lbd, lbg, lbc⟩ := S1.fresh6 nlb
          have C2 : Ch d g H (upd H1 lb (.lst [])) := C1.ofSame (same_new nlb)
          have hl2 : upd H1 lb (.lst []) lb = some (.lst []) := upd_same
          replace S1 := S1.new (o := .lst []) nlb
          generalize upd H1 lb (.lst []) = H2 at C2 hl2 S1 ⊢
          clear C1 nlb
          refine ⟨_, rfl, d, g, c, T + 1, 4, rfl, S1, by omega, by decide, by decide, fun r1 H3 C3 S3 r10 r11 => ?_⟩
          obtain ⟨n, rfl⟩ : ∃ n : Nat, r1 = n := ⟨r1.toNat, by omega⟩
          have hn3 : n ≤ 3 := by omega
          refine ⟨_, rfl, by omega, by omega, for_range (fun i σ H4 => ∃ (vals : List V) (bs : List Tr) (x3 : Option V), σ = [some (.ref d), some (.int deep), some (.ref lb), x3] ∧ Ch d g H H4 ∧ Stt H4 d g c (T + 2 + i * (1 + cT N)) ∧ H4 lb = some (.lst vals) ∧ DtAll K H4 vals (bs.map Tr.pd) ∧ bs.length = i ∧ ∀ b ∈ bs, GB N b)
            ⟨[], [], none, rfl, C2.trans C3, S3.mono (by omega), C3 _ _ lbd lbg hl2, .nil, rfl, fun b hb => by cases hb⟩ ?_ ?_⟩
          · rintro i σ H4 hi ⟨vals, bs, x3, rfl, C4, S4, hl4, dA, lb4, gb⟩
            have hi2 : i ≤ 2 := by omega
            have hmul : i * (1 + cT N) ≤ 2 * (1 + cT N) := Nat.mul_le_mul_right _ hi2
            rw [show (i + 1) * (1 + cT N) = i * (1 + cT N) + (1 + cT N) by rw [Nat.add_mul, Nat.one_mul]]
            generalize i * (1 + cT N) = Z at *
            have lv : vals.length = i := by rw [dA.length, List.length_map, lb4]
            refine ⟨_, rfl, .inl ⟨rfl, _, SqL.of hl4⟩, _, rfl, d, g, c, T + 2 + Z, 3, rfl, S4, by omega, by decide, by decide, fun r5 H5 C5 S5 r50 r51 => eq_f rfl rfl ⟨_, rfl, ite2 (fun hz5 => ?_) (fun hz5 => ?_)⟩⟩
            · have hl5 := C5 _ _ lbd lbg hl4
              refine ⟨lb, _, _, rfl, rfl, hl5, lt_line (by omega), vals ++ [.non], bs ++ [.barred], _, rfl, (C4.trans C5).mut nb, (S5.mut lbd lbg lbc).mono (by omega), upd_same, ?_, by rw [List.length_append, lb4]; rfl, ?_⟩
              · rw [List.map_append]
                exact DtAll.append (DtAll.keep ((C5.tk S4).trans (TK.lst hl5)) _ dA) (.cons (by unfold Tr.pd; exact .non) .nil)
              · intro b hb
                rcases List.mem_append.mp hb with hb | hb
                · exact gb b hb
                · rw [List.mem_singleton.mp hb]; exact gb_bar (by omega)
            · refine ⟨_, rfl, _, rfl, _, _, rfl, rfl, d, g, c, T + 2 + Z + 1, deep - 1, rfl, S5, by omega, by omega, by omega, fun b y H6 C6 S6 db gbb => ?_⟩
              have hl6 := C6 _ _ lbd lbg (C5 _ _ lbd lbg hl4)
              refine ⟨lb, _, _, rfl, rfl, hl6, lt_line (by omega), vals ++ [y], bs ++ [b], _, rfl, ((C4.trans C5).trans C6).mut nb, (S6.mut lbd lbg lbc).mono (by omega), upd_same, ?_, by rw [List.length_append, lb4]; rfl, ?_⟩
              · rw [List.map_append]
                exact DtAll.append (DtAll.keep (((C5.trans C6).tk S4).trans (TK.lst hl6)) _ dA) (.cons (Dt.keep (TK.lst hl6) _ db) .nil)
              · intro b hb
                rcases List.mem_append.mp hb with hb | hb
                · exact gb b hb
                · rw [List.mem_singleton.mp hb]; exact gbb.1
          · rintro σ H4 ⟨vals, bs, x3, rfl, C4, S4, hl4, dA, lb4, gb⟩
            rw [Int.toNat_natCast] at S4 lb4
            have hlb : bs.length = n := lb4
            have hmul : n * (1 + cT N) ≤ 3 * (1 + cT N) := Nat.mul_le_mul_right _ hn3
            generalize n * (1 + cT N) = Z at *
            refine ⟨_, rfl, _, _, rfl, rfl, ⟨by decide, by decide, by decide⟩, _, rfl, d, g, c, T + 2 + Z, 9, rfl, S4, by omega, by decide, by decide, fun r5 H5 C5 S5 r50 r51 => lst_new (by show 4 ≤ 1000; decide) fun p np => ?_⟩
            obtain ⟨pd, pg, pc⟩ := S5.fresh6 np
            refine ⟨d, g, c, T + 3 + Z, p, _, rfl, (S5.new np).mono (by omega), upd_same, pg, Nat.succ_pos 3, Nat.le_add_left 4 996, by omega, fun i6 x6 H6 hx6 C6 S6 => ?_⟩
            obtain ⟨p0, rfl, hp0⟩ : ∃ p0 : Nat, x6 = .int (p0 : Nat) ∧ p0 ≤ 1000000 := by
              match i6, hx6 with
              | 0, e => exact ⟨0, (Option.some.inj e).symm, by decide⟩
              | 1, e => exact ⟨60, (Option.some.inj e).symm, by decide⟩
              | 2, e => exact ⟨1000000, (Option.some.inj e).symm, by decide⟩
              | 3, e => exact ⟨r5.toNat, by rw [← Option.some.inj e, Int.toNat_of_nonneg r50], by omega⟩
              | i + 4, e => simp at e
            have C46 : Ch d g H4 H6 := C5.trans ((Ch.new np).trans C6)
            have hl6 := C46 _ _ lbd lbg hl4
            have dA6 := DtAll.keep (C46.tk S4) _ dA
            refine ⟨_, rfl, lb, _, rfl, .inl ⟨SqL.of hl6, fun q nq => ?_⟩⟩
            have e7 : Same H6 (upd H6 q (.tup vals)) := same_new nq
            have dt : Dt K (upd H6 q (.tup vals)) (.ref q) (.tuple (bs.map Tr.pd)) := .tup (SqT.of upd_same) (DtAll.keep (TK.same e7) _ dA6)
            generalize upd H6 q (.tup vals) = H7 at e7 dt ⊢
            refine tup_new (K := K) (ds := [.str "split", .int (p0 : Nat), .tuple (bs.map Tr.pd)]) (.cons (.str _) (.cons (.int _) (.cons dt .nil))) (by show 3 ≤ 1000; decide) fun v8 H8 e8 d8 => ?_
            exact k (.split p0 bs) v8 H8 (((C4.trans C46).ofSame e7).ofSame e8) (((S6.keep e7).keep e8).mono (by omega)) (by unfold Tr.pd; rw [pdL_map]; exact d8) ((gt_split hp0 (by omega) gb))
end
end RS

/-! DTexts6: declarations_text. -/
namespace RS
open PySem PySem.Spec PyProof.Rows L2 TL NdefX

def rowsD (ds : List Dcl) : List Str := ds.flatMap Dcl.rows
def badDs (K : PySem.W.Frag) (H : Hp) (v : V) : Prop := (∃ t, TyX K H v (.type t) ∧ L2.kitB t "tuple" = some false) ∨ ∃ a x xs, v = .ref a ∧ SqT K H a (x :: xs) ∧ xs.length ≤ 900 ∧ ∀ y ∈ x :: xs, ∀ H', Same H H' → badD K H' y
structure rDTs (K : PySem.W.Frag) (CB : Addr) (vs : List V) (H : Hp) (Q : VK) (E : XK) : Prop where
  ex : ∃ v, vs = [v] ∧ ((∃ ds : List Dcl, Dt K H v (.tuple (ds.map Dcl.pd)) ∧ (∀ d ∈ ds, d.wf) ∧ (rowsD ds).length ≤ 1000 ∧ ∀ H', Same H H' → Q (.str (joinN (ds.map Dcl.text))) H') ∨ (badDs K H v ∧ ∀ H', Same H H' → E (.ref CB) none H'))
def spDTs (K : PySem.W.Frag) (CB : Addr) : Sp := fun vs H Q E => rDTs K CB vs H Q E
theorem rowsD_cons (d : Dcl) (ds : List Dcl) : rowsD (d :: ds) = d.rows ++ rowsD ds := rfl
theorem rows_in {ds : List Dcl} {d : Dcl} (h : d ∈ ds) : d.rows.length ≤ (rowsD ds).length := by
  induction ds with
  | nil => cases h
  | cons e ds ih =>
    rw [rowsD_cons, List.length_append]
    rcases List.mem_cons.mp h with rfl | h
    · omega
    · have := ih h; omega
theorem len_rowsD : ∀ ds : List Dcl, 2 * ds.length ≤ (rowsD ds).length
  | [] => Nat.le_refl _
  | d :: ds => by have := len_rowsD ds; have := d.rows_pos; rw [rowsD_cons, List.length_append, List.length_cons]; omega
theorem texts_sum : ∀ {ds : List Dcl}, (∀ d ∈ ds, d.wf) → ((ds.map Dcl.text).map (·.length)).sum + (ds.map Dcl.text).length * 1 ≤ 7002 * (rowsD ds).length
  | [], _ => Nat.le_refl _
  | d :: ds, h => by
    have h1 := texts_sum fun e he => h e (List.mem_cons_of_mem _ he)
    have h2 := text_len (h d List.mem_cons_self)
    have := d.rows_pos
    rw [rowsD_cons, List.length_append]
    simp only [List.map_cons, List.sum_cons, List.length_cons] at h1 ⊢
    omega
section
variable {P : Program} {w : World} {K : PySem.W.Frag} {mg : Str → Option Value} {base : Heap}
theorem sc_declarations_text : FnScope ["declarations", "one"] ["declarations"] (defScope s_declarations_text) := ⟨rfl, rfl, rfl, by decide +kernel, rfl, by decide +kernel, by decide +kernel⟩
theorem ok_declarations_text {CD f : Addr} {fd : FuncData} (F : Fun K "declarations_text" "declarations_text" s_declarations_text f fd) (O : Own1 K mg "BadDeclaration" CD) (n_isinstance : mg "isinstance" = none) (n_tuple : mg "tuple" = none) (n_all : mg "all" = none)
    (Dis_declaration : Df P w K mg base "is_declaration" 7 ["value"] (spDecl K)) (Ddeclared_text : DfX P w K mg base "declared_text" 205 ["declaration"] (spDT K CD)) : FnOk P w K mg base (L2.CX P w) 206 f fd ["declarations"] (spDTs K CD) := by
  obtain ⟨x_BadDeclaration, g_BadDeclaration, q_BadDeclaration, b_BadDeclaration, t_BadDeclaration⟩ := O
  refine F.okX sc_declarations_text (fun vs H Q E h => ?_) (fun cdv A outer s H vs Q E hr h => ?_)
  · obtain ⟨v, rfl, _⟩ := h.ex; rfl
  · obtain ⟨v, rfl, h2⟩ := h.ex; clear h
    have nd := sc_declarations_text.nd
    refine ⟨_, (pss_cons (ps_if (pt_w (PW.pt (pw_or (pt_not (pt_val (pe_callB call_isU (by rfl) n_isinstance (by decide +kernel) (pa_cons (pv 0) (pa_cons (pe_bltn (v := .ty "tuple") rfl n_tuple (by decide +kernel) rfl) pa_nil))))) (pw_or1 (pt_not (pt_val (pe_callB (cr_all rfl) (by rfl) n_all (by decide +kernel) (pa_cons (pe_lc (own := [("one", 1)]) (g := gName 1) rfl nd (pi_seq (pv 0)) (blkOk_by (own := [("one", 1)]) (N := ["declarations", "one"]) (sc := defScope s_declarations_text) (by decide +kernel)) (fun _ _ _ _ _ => (pg_name (i := 1) nd rfl (Or.inl rfl))) (fun _ _ _ _ _ => pts_nil) (fun _ _ _ _ _ => (pe_df Dis_declaration hr (by omega) (pa_cons (pv 1) pa_nil)))) pa_nil))))))))
        (pss_one (ps_raise rfl (takes_of rfl rfl rfl rfl) (pmk_own PySem.F.excBase_ValueError x_BadDeclaration g_BadDeclaration q_BadDeclaration (raises_own b_BadDeclaration t_BadDeclaration) rfl)))
        pss_nil)
      (pss_one (ps_ret (pe_join pe_str (pe_lc (own := [("one", 1)]) (g := gName 1) rfl nd (pi_seq (pv 0)) (blkOk_by (own := [("one", 1)]) (N := ["declarations", "one"]) (sc := defScope s_declarations_text) (by decide +kernel)) (fun _ _ _ _ _ => (pg_name (i := 1) nd rfl (Or.inl rfl))) (fun _ _ _ _ _ => pts_nil) (fun _ _ _ _ _ => (pe_dfX Ddeclared_text hr (by omega) passX0 (pa_cons (pv 1) pa_nil)))))))), ?_⟩
    rcases h2 with ⟨ds, hv, wf, hn, k⟩ | ⟨⟨t, ht, hk⟩ | ⟨a, x, xs, rfl, hT, hl, hb⟩, k⟩
    · obtain ⟨a, xs, rfl, hT, hD⟩ := hv.tupI
      have lx : xs.length = ds.length := by rw [hD.length, List.length_map]
      have lr := len_rowsD ds
      refine ⟨⟨_, rfl, isi_u (sqT_tyx hT) (by decide +kernel) ⟨true, rfl, iteF ?_⟩⟩⟩
      refine ⟨_, rfl, a, rfl, .inr ⟨⟨_, hT⟩, fun D nD => lc_tup (K := K) (a := a) (xs := xs) (fun i H5 => Same H H5 ∧ H5 D = some (.lst ((List.replicate i true).map V.bl))) ⟨same_new nD, upd_same⟩ (fun i H5 _ ⟨c1, _⟩ => sqs hT c1) (fun i vx H5 hi ⟨c1, hD5⟩ => ?_) (fun H6 ⟨c1, hD6⟩ => ?_)⟩⟩
      · obtain ⟨dm, hdm, dx⟩ := (DtAll.keep (TK.same c1) _ hD).get hi
        rw [List.getElem?_map] at hdm
        obtain ⟨d, hd, rfl⟩ := Option.map_eq_some_iff.mp hdm
        have hmem := List.mem_of_getElem? hd
        have hil : i < ds.length := (List.getElem?_eq_some_iff.mp hd).1
        have hrd := rows_in hmem
        refine ⟨rfl, _, rfl, ⟨_, rfl, .inl ⟨d, dx, wf d hmem, by omega, fun H6 e6 => ⟨_, e6 _ _ hD5, lt_line (by rw [List.length_map, List.length_replicate]; omega), sameL (c1.trans e6) nD, ?_⟩⟩⟩⟩
        rw [upd_same, List.replicate_succ', List.map_append]
        rfl
      · refine ⟨D, _, rfl, SqL.of hD6, ?_⟩
        have e2 : (List.replicate xs.length true).all id = true := by simp
        rw [e2]
        refine ⟨_, rfl, iteF ?_⟩
        have hT6 := sqs hT c1
        have hD7 := DtAll.keep (TK.same c1) _ hD
        clear hD6
        refine ⟨⟨_, rfl⟩, _, rfl, a, rfl, .inr ⟨⟨_, hT6⟩, fun D2 nD2 => lc_tup (K := K) (a := a) (xs := xs) (fun i H5 => Same H6 H5 ∧ H5 D2 = some (.lst (((ds.take i).map Dcl.text).map V.str))) ⟨same_new nD2, upd_same⟩ (fun i H5 _ ⟨c1, _⟩ => sqs hT6 c1) (fun i vx H5 hi ⟨c5, hD5⟩ => ?_) (fun H8 ⟨c8, hD8⟩ => ?_)⟩⟩
        · obtain ⟨dm, hdm, dx⟩ := (DtAll.keep (TK.same c5) _ hD7).get hi
          rw [List.getElem?_map] at hdm
          obtain ⟨d, hd, rfl⟩ := Option.map_eq_some_iff.mp hdm
          have hmem := List.mem_of_getElem? hd
          have hil : i < ds.length := (List.getElem?_eq_some_iff.mp hd).1
          have hrd := rows_in hmem
          refine ⟨rfl, _, rfl, ⟨_, rfl, .inl ⟨d, dx, wf d hmem, by omega, fun H6 e6 => ⟨_, e6 _ _ hD5, lt_line (by rw [List.length_map, List.length_map, List.length_take]; omega), sameL (c5.trans e6) nD2, ?_⟩⟩⟩⟩
          rw [upd_same, List.take_succ, hd, List.map_append, List.map_append]
          rfl
        · rw [lx, List.take_length] at hD8
          refine ⟨"\n", D2, _, rfl, rfl, .inl (SqL.of hD8), ?_, k _ (c1.trans c8)⟩
          have := texts_sum wf
          rw [nl_len]
          omega
    · exact ⟨⟨_, rfl, isi_u ht hk ⟨false, rfl, iteT (k _ (Same.refl _))⟩⟩⟩
    · refine ⟨⟨_, rfl, isi_u (sqT_tyx hT) (by decide +kernel) ⟨true, rfl, iteF ?_⟩⟩⟩
      refine ⟨_, rfl, a, rfl, .inr ⟨⟨_, hT⟩, fun D nD => lc_tup (K := K) (a := a) (xs := x :: xs) (fun i H5 => Same H H5 ∧ H5 D = some (.lst ((List.replicate i false).map V.bl))) ⟨same_new nD, upd_same⟩ (fun i H5 _ ⟨c1, _⟩ => sqs hT c1) (fun i vx H5 hi ⟨c1, hD5⟩ => ?_) (fun H6 ⟨c1, hD6⟩ => ?_)⟩⟩
      · have hil : i < (x :: xs).length := (List.getElem?_eq_some_iff.mp hi).1
        rw [List.length_cons] at hil
        refine ⟨rfl, _, rfl, ⟨_, rfl, .inr ⟨hb _ (List.mem_of_getElem? hi) H5 c1, ⟨_, hD5, lt_line (by rw [List.length_map, List.length_replicate]; omega), sameL c1 nD, ?_⟩⟩⟩⟩
        rw [upd_same, List.replicate_succ', List.map_append]
        rfl
      · refine ⟨D, _, rfl, SqL.of hD6, ?_⟩
        have e2 : (List.replicate (x :: xs).length false).all id = false := by rw [List.length_cons, List.replicate_succ]; rfl
        rw [e2]
        exact ⟨_, rfl, iteT (k _ c1)⟩
end
end RS

/-! RtD6: _law_rt_declaration. -/
namespace RS
open PySem PySem.Spec PyProof.Rows L2 TL

def sumL (rs : List Str) : Nat := (rs.map (·.length)).sum + rs.length * 1
theorem sumL_app (a b : List Str) : sumL (a ++ b) = sumL a + sumL b := by unfold sumL; rw [List.map_append, List.sum_append, List.length_append]; omega
theorem sumL_cons (z : Str) (b : List Str) : sumL (z :: b) = z.length + 1 + sumL b := by unfold sumL; rw [List.map_cons, List.sum_cons, List.length_cons]; omega
theorem sumL_nil : sumL [] = 0 := rfl
theorem sumL_le {n : Nat} : ∀ {rs : List Str}, (∀ z ∈ rs, gdR n z) → sumL rs ≤ (n + 1) * rs.length
  | [], _ => Nat.zero_le _
  | a :: rs, h => by
    have h1 := (h a List.mem_cons_self).2
    have h2 := sumL_le fun z hz => h z (List.mem_cons_of_mem _ hz)
    rw [sumL_cons, List.length_cons, Nat.mul_succ]
    omega
structure GD (d : Dcl) : Prop where
  wf : d.wf
  gd : ∀ z ∈ d.rows, goodR z
  len : d.rows.length ≤ 42
  sum : sumL d.rows ≤ 82000
  ok : Okd d.pd 20 66000
theorem ok_none {D : Nat} : Okd PyData.none D 0 := ⟨rfl, rfl, Nat.zero_le _, rfl, Nat.le_refl _⟩
theorem ok_bool {b : Bool} {D : Nat} : Okd (PyData.bool b) D 64 := ⟨rfl, rfl, Nat.zero_le _, rfl, by cases b <;> decide⟩
theorem gd_type {ty : Tm} (wf : ty.wf) (hd : ty.depth ≤ 4) : gdR 5300 (row ("type" :: cwords ty)) := by
  obtain ⟨h1, h2, h3⟩ := tm4 wf hd
  exact gd_row (fun q => by cases q) (wd_cons (by decide +kernel) (wd_words wf)) (by rw [List.length_cons]; omega) (by rw [List.length_cons]; omega)
theorem gd_kind {x : Str} {many : Nat} {ty : Tm} {mk : List (Str × Tm)} (hx : isCap x = true) (hm : many ≤ 60) (wf : ty.wf) (hd : ty.depth ≤ 4) (hc : ty.closed 0 = true) (hl : mk.length ≤ 3) (hmk : ∀ p ∈ mk, isCap p.1 = true ∧ p.2.wf ∧ p.2.depth ≤ 3 ∧ p.2.closed 0 = true) : GD (.kind x many ty mk) := by
  obtain ⟨t1, t2, t3⟩ := tm4 wf hd
  have rows : ∀ z ∈ (Dcl.kind x many ty mk).rows, gdR 5300 z := fun z hz => by
    unfold Dcl.rows at hz
    rcases List.mem_cons.mp hz with rfl | hz
    · exact gd_row (fun q => by cases q) (wd_cons (by decide +kernel) (wd_cons (wd_word (word_cap hx)) (wd_cons (wd_num (by omega)) (wd_cons (wd_num (by omega)) wd_nil)))) (by show 4 ≤ 100; decide) (by show 65 * 4 ≤ 5300; decide)
    · rcases List.mem_cons.mp hz with rfl | hz
      · exact gd_type wf hd
      · obtain ⟨p, hp, rfl⟩ := List.mem_map.mp hz
        obtain ⟨p1, p2, p3, p4⟩ := hmk p hp
        obtain ⟨q1, q2, q3⟩ := tm3 p2 p3
        unfold mkR
        exact gd_row (fun q => by cases q) (wd_cons (by decide +kernel) (wd_cons (wd_word (word_cap p1)) (wd_words p2))) (by rw [List.length_cons, List.length_cons]; omega) (by rw [List.length_cons, List.length_cons]; omega)
  have len : (Dcl.kind x many ty mk).rows.length ≤ 5 := by unfold Dcl.rows; simp; omega
  refine ⟨⟨hx, hm, ⟨t1, hc⟩, by omega, fun p hp => ?_⟩, fun z hz => (rows z hz).1, by omega, ?_, ?_⟩
  · obtain ⟨p1, p2, p3, p4⟩ := hmk p hp
    exact ⟨p1, (tm3 p2 p3).1, p4⟩
  · have := sumL_le rows
    have h2 : (5300 + 1) * (Dcl.kind x many ty mk).rows.length ≤ (5300 + 1) * 5 := Nat.mul_le_mul_left _ len
    omega
  · unfold Dcl.pd
    have a1 : OkdA (mk.map mkD) 10 ((mk.map mkD).length * (1400 + 1)) := OkdA.all _ fun d hd => by
      obtain ⟨p, hp, rfl⟩ := List.mem_map.mp hd
      obtain ⟨p1, p2, p3, p4⟩ := hmk p hp
      obtain ⟨q1, q2, q3⟩ := tm3 p2 p3
      unfold mkD
      have hw := okW_word (word_cap p1)
      exact (OkdA.tup (OkdA.cons (Okd.str (D := 4) (W := 16) (strOk_asc (asc_word (word_cap p1))) hw.2) (.cons q3 .nil))).mono (by omega) (by omega)
    have h2 : (mk.map mkD).length * (1400 + 1) ≤ 3 * (1400 + 1) := Nat.mul_le_mul_right _ (by rw [List.length_map]; exact hl)
    have hw := okW_word (word_cap hx)
    refine (OkdA.tup (OkdA.cons (Okd.str (D := 11) (W := 10) (by decide +kernel) (by decide +kernel)) (.cons (Okd.str (W := 16) (strOk_asc (asc_word (word_cap hx))) hw.2) (.cons (Okd.int (by omega)) (.cons (t3.mono (by omega) (Nat.le_refl _)) (.cons a1.tup .nil)))))).mono (by omega) ?_
    omega
theorem gd_fn {ty : Tm} {many : Nat} {at_ : Option Nat} {tree : Tr} {shut : Bool} (hm : many ≤ 60) (wf : ty.wf) (hd : ty.depth ≤ 4) (hc : ty.closed 0 = true) (hat : ∀ a, at_ = some a → a < many) (ht : GT 4 tree) : GD (.fn "f" ty many at_ tree shut) := by
  obtain ⟨t1, t2, t3⟩ := tm4 wf hd
  have hx : isSm "f" = true := by decide +kernel
  have g0 : gdR 5300 (row ["function", "f", numS many, atS at_, shutS shut]) := by
    refine gd_row (fun q => by cases q) (wd_cons (by decide +kernel) (wd_cons (by decide +kernel) (wd_cons (wd_num (by omega)) (wd_cons ?_ (wd_cons ?_ wd_nil))))) (by show 5 ≤ 100; decide) (by show 65 * 5 ≤ 5300; decide)
    · cases at_ with
      | none => decide +kernel
      | some a => exact wd_num (by have := hat a rfl; omega)
    · cases shut <;> decide +kernel
  have g1 := gd_type wf hd
  have e : (Dcl.fn "f" ty many at_ tree shut).rows = row ["function", "f", numS many, atS at_, shutS shut] :: row ("type" :: cwords ty) :: tree.rows := by unfold Dcl.rows; rfl
  have hl := ht.1.len
  have r4 : rT 4 = 40 := rfl
  have w4 : wT 4 = 60120 := rfl
  refine ⟨⟨hx, hm, ⟨t1, hc⟩, hat, ht.1.wf, ht.2⟩, fun z hz => ?_, by rw [e, List.length_cons, List.length_cons]; omega, ?_, ?_⟩
  · rw [e] at hz
    rcases List.mem_cons.mp hz with rfl | hz
    · exact g0.1
    · rcases List.mem_cons.mp hz with rfl | hz
      · exact g1.1
      · exact (ht.1.gd z hz).1
  · rw [e, sumL_cons, sumL_cons]
    have h1 := sumL_le ht.1.gd
    have h2 : (1760 + 1) * tree.rows.length ≤ (1760 + 1) * 40 := Nat.mul_le_mul_left _ (by omega)
    have h3 := g0.2
    have h4 := g1.2
    omega
  · have hat' : Okd (atD at_) 14 64 := by
      cases at_ with
      | none => exact ok_none.mono (Nat.le_refl _) (by omega)
      | some a => exact Okd.int (by have := hat a rfl; omega)
    have h3 := ht.1.ok
    rw [w4] at h3
    unfold Dcl.pd
    refine (OkdA.tup (OkdA.cons (Okd.str (D := 14) (W := 10) (by decide +kernel) (by decide +kernel)) (.cons (Okd.str (W := 16) (by decide +kernel) (by decide +kernel)) (.cons (t3.mono (by omega) (Nat.le_refl _)) (.cons (Okd.int (by omega)) (.cons hat' (.cons h3 (.cons ok_bool .nil)))))))).mono (by omega) ?_
    omega
end RS

/-! RtE6: _law_rt_declaration. -/
namespace RS
open PySem PySem.Spec PyProof.Rows L2 TL

def spRtD (K : PySem.W.Frag) : Sp := fun vs H Q _ => ∃ (d g c : Addr) (T : Nat), vs = [.ref d] ∧ Stt H d g c T ∧ T + 6200 ≤ topT ∧
  ∀ (dc : Dcl) v H', Ch d g H H' → Stt H' d g c (T + 6200) → Dt K H' v dc.pd → GD dc → Q v H'
theorem at_rd {K : PySem.W.Frag} {P : Program} {w : World} {mg : Str → Option Value} {base : Heap} {σ : L2.St} {d g c : Addr} {T : Nat} {many : Nat} {H : Hp} {Q : VK} (h0 : σ[0]? = some (some (.ref d))) (h1 : σ[1]? = some (some (.int (many : Nat)))) (S : Stt H d g c T) (hT : T + 5 ≤ topT) (hm : many ≤ 60)
    (k : ∀ (at_ : Option Nat) H', Ch d g H H' → Stt H' d g c (T + 2) → (∀ a, at_ = some a → a < many) → Q (atV at_) H') :
    tIf (tW (tAnd (tTest (tOp (rI0 fun i j => .bl (decide (i > j))) (tVar 1) (tC (.int 0)))) (tTest (tOp (rEqU K false) (tDf spDraw (tCons (tVar 0) (tCons (tC (.int 2)) tNil))) (tC (.int 0)))))) (tDf spDraw (tCons (tVar 0) (tCons (tVar 1) tNil))) (tC .non) σ H Q := by
  refine ⟨⟨_, h1, _, _, rfl, rfl, _, rfl, ite2 (fun hp => ?_) (fun hp => ?_)⟩⟩
  · have hp' : (0 : Int) < many := of_decide_eq_true hp
    refine ⟨_, h0, d, g, c, T, 2, rfl, S, by omega, by decide, by decide, fun r H1 C1 S1 r0 r1 => eq_f rfl rfl ⟨_, rfl, ite2 (fun hz => ?_) (fun hz => ?_)⟩⟩
    · refine ⟨_, h0, _, h1, d, g, c, T + 1, (many : Nat), rfl, S1, by omega, by omega, by omega, fun r2 H2 C2 S2 r20 r21 => ?_⟩
      have e : V.int r2 = atV (some r2.toNat) := by show _ = V.int ((r2.toNat : Nat) : Int); rw [Int.toNat_of_nonneg r20]
      rw [e]
      exact k (some r2.toNat) H2 (C1.trans C2) S2 fun a ea => by cases ea; omega
    · exact k none H1 C1 (S1.mono (by omega)) fun a ea => by cases ea
  · exact k none H (Ch.refl H) (S.mono (by omega)) fun a ea => by cases ea
section
variable {P : Program} {w : World} {K : PySem.W.Frag} {mg : Str → Option Value} {base : Heap}
theorem sc_law_rt_declaration : FnScope ["state", "many", "at", "makers", "turn"] ["state"] (defScope s_law_rt_declaration) := ⟨rfl, rfl, rfl, by decide +kernel, rfl, by decide +kernel, by decide +kernel⟩
theorem ok_rt_decl {f : Addr} {fd : FuncData} (F : Fun K "_law_rt_declaration" "_law_rt_declaration" s_law_rt_declaration f fd) (n_range : mg "range" = none) (n_tuple : mg "tuple" = none)
    (D_law_draw : Df P w K mg base "_law_draw" 2 ["state", "size_here"] spDraw) (D_law_pick : Df P w K mg base "_law_pick" 3 ["state", "several"] spPick) (D_law_rt_closed : Df P w K mg base "_law_rt_closed" 8 ["state", "deep"] (spClosed K 4)) (D_law_rt_tree : Df P w K mg base "_law_rt_tree" 11 ["state", "deep"] (spRtT K 4)) : FnOk P w K mg base CX0 12 f fd ["state"] (spRtD K) := by
  refine F.ok sc_law_rt_declaration (fun vs H Q E h => ?_) (fun cdv A outer s H vs Q E hr h => ?_)
  · obtain ⟨d, g, c, T, rfl, _⟩ := h; rfl
  · obtain ⟨d, g, c, T, rfl, S, hT, k⟩ := h
    have nd := sc_law_rt_declaration.nd
    have c4 : cost 4 = 400 := rfl
    have ct4 : cT 4 = 5720 := rfl
    refine ⟨_, (pss_cons (ps_if (pt_cmpR (uEq hr.units) (pe_df D_law_draw hr (by omega) (pa_cons (pv 0) (pa_cons pe_int pa_nil))) pe_int (nomark _))
        (pss_cons (ps_set (i := 3) nd rfl (Or.inl rfl) (pe_lstN pa_nil))
        (pss_cons (ps_for PassesOwn.never rfl (pi_range1 rfl n_range (pa_cons (pe_df D_law_draw hr (by omega) (pa_cons (pv 0) (pa_cons pe_int pa_nil))) pa_nil)) (pg_name (i := 4) nd rfl (Or.inl rfl))
          (pss_one (ps_expr (pe_bm PySem.F.plainAttrs_list PySem.F.slot_list_append PySem.F.type_list_append mt_append (pv 3) (pa_cons (pe_tupN (pa_cons (pe_df D_law_pick hr (by omega) (pa_cons (pv 0) (pa_cons (pe_lstN (pa_cons pe_str (pa_cons pe_str (pa_cons pe_str pa_nil)))) pa_nil))) (pa_cons (pe_df D_law_rt_closed hr (by omega) (pa_cons (pv 0) (pa_cons pe_int pa_nil))) pa_nil))) pa_nil)))))
        (pss_one (ps_ret (pe_tupN (pa_cons pe_str (pa_cons (pe_df D_law_pick hr (by omega) (pa_cons (pv 0) (pa_cons (pe_lstN (pa_cons pe_str (pa_cons pe_str pa_nil))) pa_nil))) (pa_cons (pe_df D_law_pick hr (by omega) (pa_cons (pv 0) (pa_cons (pe_lstN (pa_cons pe_int (pa_cons pe_int (pa_cons pe_int pa_nil)))) pa_nil))) (pa_cons (pe_df D_law_rt_closed hr (by omega) (pa_cons (pv 0) (pa_cons pe_int pa_nil))) (pa_cons (pe_callTy call_tuple_of (by rfl) n_tuple (by decide +kernel) (pa_cons (pv 3) pa_nil)) pa_nil))))))))))
        pss_nil)
      (pss_cons (ps_set (i := 1) nd rfl (Or.inl rfl) (pe_df D_law_draw hr (by omega) (pa_cons (pv 0) (pa_cons pe_int pa_nil))))
      (pss_cons (ps_set (i := 2) nd rfl (Or.inl rfl) (pe_ifExp (pt_w (PW.pt (pw_and (pt_cmpR op_gt (pv 1) pe_int (nomark _)) (pw_and1 (pt_cmpR (uEq hr.units) (pe_df D_law_draw hr (by omega) (pa_cons (pv 0) (pa_cons pe_int pa_nil))) pe_int (nomark _)))))) (pe_df D_law_draw hr (by omega) (pa_cons (pv 0) (pa_cons (pv 1) pa_nil))) pe_non))
      (pss_one (ps_ret (pe_tupN (pa_cons pe_str (pa_cons pe_str (pa_cons (pe_df D_law_rt_closed hr (by omega) (pa_cons (pv 0) (pa_cons pe_int pa_nil))) (pa_cons (pv 1) (pa_cons (pv 2) (pa_cons (pe_df D_law_rt_tree hr (by omega) (pa_cons (pv 0) (pa_cons pe_int pa_nil))) (pa_cons (pe_cmpR (uEq hr.units) (pe_df D_law_draw hr (by omega) (pa_cons (pv 0) (pa_cons pe_int pa_nil))) pe_int (nomark _)) pa_nil))))))))))))), ?_⟩
    refine ⟨_, rfl, d, g, c, T, 2, rfl, S, by omega, by decide, by decide, fun r0 H1 C1 S1 r00 r01 => eq_f rfl rfl ⟨_, rfl, ite2 (fun hz => ?_) (fun hz => ?_)⟩⟩
    · refine lst_new (Nat.zero_le _) fun lb nlb => ?_
      have nb := C1.free S1 nlb
      obtain ⟨lbd, lbg, lbc⟩ := S1.fresh6 nlb
      have C2 : Ch d g H (upd H1 lb (.lst [])) := C1.ofSame (same_new nlb)
      have hl2 : upd H1 lb (.lst []) lb = some (.lst []) := upd_same
      replace S1 := S1.new (o := .lst []) nlb
      generalize upd H1 lb (.lst []) = H2 at C2 hl2 S1 ⊢
      clear C1 nlb
      refine ⟨_, rfl, d, g, c, T + 1, 4, rfl, S1, by omega, by decide, by decide, fun r1 H3 C3 S3 r10 r11 => ?_⟩
      obtain ⟨n, rfl⟩ : ∃ n : Nat, r1 = n := ⟨r1.toNat, by omega⟩
      have hn3 : n ≤ 3 := by omega
      refine ⟨_, rfl, by omega, by omega, for_range (fun i σ H4 => ∃ (vals : List V) (mk : List (Str × Tm)) (x4 : Option V), σ = [some (.ref d), none, none, some (.ref lb), x4] ∧ Ch d g H H4 ∧ Stt H4 d g c (T + 2 + i * 401) ∧ H4 lb = some (.lst vals) ∧ DtAll K H4 vals (mk.map mkD) ∧ mk.length = i ∧ ∀ p ∈ mk, isCap p.1 = true ∧ p.2.wf ∧ p.2.depth ≤ 3 ∧ p.2.closed 0 = true)
        ⟨[], [], none, rfl, C2.trans C3, S3.mono (by omega), C3 _ _ lbd lbg hl2, .nil, rfl, fun b hb => by cases hb⟩ ?_ ?_⟩
      · rintro i σ H4 hi ⟨vals, mk, x4, rfl, C4, S4, hl4, dA, lb4, gb⟩
        have hi2 : i ≤ 2 := by omega
        have lv : vals.length = i := by rw [dA.length, List.length_map, lb4]
        refine ⟨_, rfl, .inl ⟨rfl, _, SqL.of hl4⟩, _, rfl, lst_new (by show 3 ≤ 1000; decide) fun p np => ?_⟩
        obtain ⟨pd, pg, pc⟩ := S4.fresh6 np
        refine ⟨d, g, c, T + 2 + i * 401, p, (["Ma", "M", "Aa0_"] : List Str).map V.str, rfl, S4.new np, upd_same, pg, by decide, by decide, by omega, fun i6 x6 H6 hx6 C6 S6 => ?_⟩
        obtain ⟨nm, hnm, rfl⟩ := pick_str hx6
        have hcap : isCap nm = true := by
          have : ((["Ma", "M", "Aa0_"] : List Str).all isCap) = true := by decide +kernel
          exact List.all_eq_true.mp this nm hnm
        have C46 : Ch d g H4 H6 := (Ch.new np).trans C6
        refine ⟨_, rfl, d, g, c, T + 2 + i * 401 + 1, 3, rfl, S6, by omega, by decide, by decide, fun u vu H7 C7 S7 hu wf cl dp => ?_⟩
        refine tup_new (K := K) (ds := [.str nm, u.pd]) (.cons (.str _) (.cons hu .nil)) (by show 2 ≤ 1000; decide) fun v8 H8 e8 d8 => ?_
        have C48 : Ch d g H4 H8 := (C46.trans C7).ofSame e8
        have S8 := S7.keep e8
        have hl8 := C48 _ _ lbd lbg hl4
        refine ⟨lb, _, _, rfl, rfl, hl8, lt_line (by omega), vals ++ [v8], mk ++ [(nm, u)], _, rfl, (C4.trans C48).mut nb, (S8.mut lbd lbg lbc).mono (by omega), upd_same, ?_, by rw [List.length_append, lb4]; rfl, ?_⟩
        · rw [List.map_append]
          exact DtAll.append (DtAll.keep ((C48.tk S4).trans (TK.lst hl8)) _ dA) (.cons (Dt.keep (TK.lst hl8) _ d8) .nil)
        · intro b hb
          rcases List.mem_append.mp hb with hb | hb
          · exact gb b hb
          · rw [List.mem_singleton.mp hb]; exact ⟨hcap, wf, by show u.depth ≤ 3; omega, cl⟩
      · rintro σ H4 ⟨vals, mk, x4, rfl, C4, S4, hl4, dA, lb4, gb⟩
        rw [Int.toNat_natCast] at S4 lb4
        have hlb : mk.length = n := lb4
        refine ⟨_, rfl, lst_new (by show 2 ≤ 1000; decide) fun p np => ?_⟩
        obtain ⟨pd, pg, pc⟩ := S4.fresh6 np
        refine ⟨d, g, c, T + 2 + n * 401, p, (["K", "Num"] : List Str).map V.str, rfl, S4.new np, upd_same, pg, by decide, by decide, by omega, fun i6 x6 H6 hx6 C6 S6 => ?_⟩
        obtain ⟨nm, hnm, rfl⟩ := pick_str hx6
        have hcap : isCap nm = true := by
          have : ((["K", "Num"] : List Str).all isCap) = true := by decide +kernel
          exact List.all_eq_true.mp this nm hnm
        have C46 : Ch d g H4 H6 := (Ch.new np).trans C6
        refine ⟨_, rfl, lst_new (by show 3 ≤ 1000; decide) fun p2 np2 => ?_⟩
        obtain ⟨p2d, p2g, p2c⟩ := S6.fresh6 np2
        refine ⟨d, g, c, T + 2 + n * 401 + 1, p2, _, rfl, S6.new np2, upd_same, p2g, by decide, by decide, by omega, fun i7 x7 H7 hx7 C7 S7 => ?_⟩
        obtain ⟨many, rfl, hm⟩ : ∃ p0 : Nat, x7 = .int (p0 : Nat) ∧ p0 ≤ 60 := by
          match i7, hx7 with
          | 0, e => exact ⟨0, (Option.some.inj e).symm, by decide⟩
          | 1, e => exact ⟨60, (Option.some.inj e).symm, by decide⟩
          | 2, e => exact ⟨2, (Option.some.inj e).symm, by decide⟩
          | i + 3, e => simp at e
        have C47 : Ch d g H4 H7 := C46.trans ((Ch.new np2).trans C7)
        refine ⟨_, rfl, d, g, c, T + 2 + n * 401 + 2, 3, rfl, S7, by omega, by decide, by decide, fun u vu H8 C8 S8 hu wf cl dp => ?_⟩
        rw [c4] at S8
        have C48 := C47.trans C8
        have hl8 := C48 _ _ lbd lbg hl4
        have dA8 := DtAll.keep (C48.tk S4) _ dA
        refine ⟨_, rfl, lb, _, rfl, .inl ⟨SqL.of hl8, fun q nq => ?_⟩⟩
        have e9 : Same H8 (upd H8 q (.tup vals)) := same_new nq
        have dt : Dt K (upd H8 q (.tup vals)) (.ref q) (.tuple (mk.map mkD)) := .tup (SqT.of upd_same) (DtAll.keep (TK.same e9) _ dA8)
        generalize upd H8 q (.tup vals) = H9 at e9 dt ⊢
        refine tup_new (K := K) (ds := [.str "kind", .str nm, .int (many : Nat), u.pd, .tuple (mk.map mkD)]) (.cons (.str _) (.cons (.str _) (.cons (.int _) (.cons (hu.same e9) (.cons dt .nil))))) (by show 5 ≤ 1000; decide) fun v8 H10 e10 d10 => ?_
        exact k (.kind nm many u mk) v8 H10 (((C4.trans C48).ofSame e9).ofSame e10) (((S8.keep e9).keep e10).mono (by omega)) d10 (gd_kind hcap hm wf (by omega) cl (by omega) gb)
    · refine ⟨_, rfl, d, g, c, T + 1, 5, rfl, S1, by omega, by decide, by decide, fun r1 H3 C3 S3 r10 r11 => ?_⟩
      obtain ⟨many, rfl⟩ : ∃ n : Nat, r1 = n := ⟨r1.toNat, by omega⟩
      refine at_rd (K := K) (P := P) (w := w) (mg := mg) (base := base) rfl rfl S3 (by omega) (by omega) fun at_ H4 C4 S4 hat => ?_
      refine ⟨_, rfl, d, g, c, T + 4, 4, rfl, S4, by omega, by decide, by decide, fun u vu H5 C5 S5 hu wf cl dp => ?_⟩
      rw [c4] at S5
      refine ⟨_, rfl, _, rfl, _, rfl, d, g, c, T + 404, 4, rfl, S5, by omega, by decide, by decide, fun t vt H6 C6 S6 ht gt => ?_⟩
      rw [ct4] at S6
      refine ⟨_, rfl, d, g, c, T + 404 + 5720, 2, rfl, S6, by omega, by decide, by decide, fun r2 H7 C7 S7 r20 r21 => eq_f rfl rfl ?_⟩
      have C57 : Ch d g H5 H7 := C6.trans C7
      refine tup_new (K := K) (ds := [.str "function", .str "f", u.pd, .int (many : Nat), atD at_, t.pd, .bool _]) (.cons (.str _) (.cons (.str _) (.cons (Dt.keep (C57.tk S5) _ hu) (.cons (.int _) (.cons (atV_dt at_) (.cons (Dt.keep (C7.tk S6) _ ht) (.cons (.bl _) .nil))))))) (by show 7 ≤ 1000; decide) fun v8 H8 e8 d8 => ?_
      exact k (.fn "f" u many at_ t _) v8 H8 ((C1.trans (C3.trans (C4.trans (C5.trans C57)))).ofSame e8) ((S7.keep e8).mono (by omega)) d8 (gd_fn (by omega) wf (by omega) cl hat gt)
end
end RS

/-! LWords6: _law_rt_parts, _law_k06_words. -/
namespace RS
open PySem PySem.Spec PyProof.Rows L2 TL

section
variable {P : Program} {w : World} {K : PySem.W.Frag} {mg : Str → Option Value} {base : Heap}
def preW : Tm → List Str
  | .bin w m _ _ => ["(" ++ w, m]
  | .letT _ _ _ => ["(" ++ ("let" : Str)]
  | .app _ m _ => ["(" ++ ("app" : Str), m]
  | _ => []
theorem words_parts {t : Tm} (h : t.isLeaf = false) : cwords t = preW t ++ t.parts.flatMap (fun p => cwords p.1) ++ ([")"] : List Str) := by
  cases t with
  | bin w m a b => simp [cwords, preW, Tm.parts]
  | letT a b c => simp [cwords, preW, Tm.parts]; rfl
  | app f m x => simp [cwords, preW, Tm.parts]; rfl
  | _ => cases h
theorem part_depth {t : Tm} {N : Nat} (h : t.depth ≤ N + 1) : ∀ p ∈ t.parts, p.1.depth ≤ N := by
  cases t with
  | bin w m a b => unfold Tm.depth at h; intro p hp; simp only [Tm.parts, List.mem_cons, List.not_mem_nil, or_false] at hp; rcases hp with rfl | rfl <;> (dsimp only; omega)
  | letT a b c => unfold Tm.depth at h; intro p hp; simp only [Tm.parts, List.mem_cons, List.not_mem_nil, or_false] at hp; rcases hp with rfl | rfl | rfl <;> (dsimp only; omega)
  | app f m x => unfold Tm.depth at h; intro p hp; simp only [Tm.parts, List.mem_cons, List.not_mem_nil, or_false] at hp; rcases hp with rfl | rfl <;> (dsimp only; omega)
  | num _ _ => intro p hp; cases hp
  | name _ => intro p hp; cases hp
  | count _ _ => intro p hp; cases hp
theorem part_wf {t : Tm} (h : t.wf) : ∀ p ∈ t.parts, p.1.wf := fun p hp => pts_wf h p.1 (List.mem_map_of_mem hp)
theorem flat_le {ps : List (Tm × Int)} (i : Nat) : ((ps.take i).flatMap (fun p => cwords p.1)).length ≤ (ps.flatMap (fun p => cwords p.1)).length := by
  conv => rhs; rw [← List.take_append_drop i ps]
  rw [List.flatMap_append, List.length_append]; omega
theorem sg_merge : mergeK [] sgK = sgK := by simp +decide [mergeK, putK, sgK]
theorem sg_val (w : Str) : valV (mergeK [] sgK) (.inr w : Key) = if w = "bound" then some (.str "#") else if w = "local" then some (.str "$") else if w = "hole" then some (.str "?") else none := by
  rw [sg_merge]
  unfold valV sgK
  simp only [List.find?_cons, Sum.inr.injEq]
  by_cases h1 : ("bound" : Str) = w
  · rw [if_pos h1.symm, decide_eq_true h1]; rfl
  · rw [if_neg (fun q => h1 q.symm), decide_eq_false h1]
    by_cases h2 : ("local" : Str) = w
    · rw [if_pos h2.symm, decide_eq_true h2]; rfl
    · rw [if_neg (fun q => h2 q.symm), decide_eq_false h2]
      by_cases h3 : ("hole" : Str) = w
      · rw [if_pos h3.symm, decide_eq_true h3]; rfl
      · rw [if_neg (fun q => h3 q.symm), decide_eq_false h3]; rfl
theorem sc_law_k06_words : FnScope ["term", "word", "found", "signs", "part", "more"] ["term"] (defScope s_law_k06_words) := ⟨rfl, rfl, rfl, by decide +kernel, rfl, by decide +kernel, by decide +kernel⟩
theorem ok_law_words {f : Addr} {fd : FuncData} (F : Fun K "_law_k06_words" "_law_k06_words" s_law_k06_words f fd) (hm : mg "_law_k06_words" = some (.ref f)) (b : Binds K fd ["term"] []) (n_str : mg "str" = none)
    (D_law_rt_parts : Df P w K mg base "_law_rt_parts" 1 ["term"] (spParts K)) : ∀ N, FnOk P w K mg base CX0 (N + 2) f fd ["term"] (spCW K N)
  | 0 => cw_none
  | N + 1 => by
    have D_law_k06_words : Df P w K mg base "_law_k06_words" (N + 2) ["term"] (spCW K N) := ⟨f, fd, ok_law_words F hm b n_str D_law_rt_parts N, hm, F.kp, b⟩
    refine F.ok sc_law_k06_words (fun vs H Q E h => ?_) (fun cdv A outer s H vs Q E hr h => ?_)
    · obtain ⟨v, t, rfl, _⟩ := h.ex; rfl
    · obtain ⟨v, t, rfl, hv, wf, hd, hn, k⟩ := h.ex
      have nd := sc_law_k06_words.nd
      obtain ⟨p, xs, rfl, hT⟩ := dt_word hv
      have e3 := wf_let wf
      have e4 := wf_app wf
      refine ⟨_, (pss_cons (ps_set (i := 1) nd rfl (Or.inl rfl) (pe_ix ix_seq (pv 0) pe_int (fun _ _ => rfl)))
      (pss_cons (ps_if (pt_cmpR (uEq hr.units) (pe_df D_law_rt_parts hr (by omega) (pa_cons (pv 0) pa_nil)) (pe_lstN pa_nil) (nomark _))
        (pss_cons (ps_set (i := 3) nd rfl (Or.inl rfl) (pe_disp (pps_cons pe_str pe_str (pps_cons pe_str pe_str (pps_cons pe_str pe_str pps_nil))) (by rfl) (by rfl) (fun z => by cases z) (by decide)))
        (pss_cons (ps_if (pt_cmp (pc_din (hu_of hr) (pv 1) (pv 3)))
          (pss_one (ps_ret (pe_lstN (pa_cons (pe_op uAdd (pe_dget (hu_of hr) (pv 3) (pv 1) (fun _ _ => rfl)) (pe_callTy call_str_int (by rfl) n_str (by decide +kernel) (pa_cons (pe_ix ix_seq (pv 0) pe_int (fun _ _ => rfl)) pa_nil))) pa_nil))))
          pss_nil)
        (pss_one (ps_ret (pe_ifExp (pt_cmpR (uEq hr.units) (pv 1) pe_str (nomark _)) (pe_lstN (pa_cons (pe_op uAdd pe_str (pe_callTy call_str_int (by rfl) n_str (by decide +kernel) (pa_cons (pe_ix ix_seq (pv 0) pe_int (fun _ _ => rfl)) pa_nil))) pa_nil)) (pe_lstN (pa_cons (pe_ifExp (pt_cmpR (uEq hr.units) (pv 1) pe_str (nomark _)) (pe_ix ix_seq (pv 0) pe_int (fun _ _ => rfl)) (pe_op uAdd (pe_op uAdd (pe_ix ix_seq (pv 0) pe_int (fun _ _ => rfl)) pe_str) (pe_callTy call_str_int (by rfl) n_str (by decide +kernel) (pa_cons (pe_ix ix_seq (pv 0) pe_int (fun _ _ => rfl)) pa_nil)))) pa_nil)))))))
        pss_nil)
      (pss_cons (ps_set (i := 2) nd rfl (Or.inl rfl) (pe_lstN (pa_cons (pe_op uAdd pe_str (pv 1)) pa_nil)))
      (pss_cons (ps_join (ps_if (pt_cmpR (uNe hr.units) (pv 1) pe_str (nomark _))
        (pss_one (ps_expr (pe_bm PySem.F.plainAttrs_list PySem.F.slot_list_append PySem.F.type_list_append mt_append (pv 2) (pa_cons (pe_ifExp (pt_cmpR (uEq hr.units) (pv 1) pe_str (nomark _)) (pe_ix ix_seq (pv 0) pe_int (fun _ _ => rfl)) (pe_ix ix_seq (pv 0) pe_int (fun _ _ => rfl))) pa_nil))))
        pss_nil))
      (pss_cons (ps_for PassesOwn.never rfl (pi_seq (pe_df D_law_rt_parts hr (by omega) (pa_cons (pv 0) pa_nil))) (pg_tup rfl (pgs_cons (pg_name (i := 4) nd rfl (Or.inl rfl)) (pgs_cons (pg_name (i := 5) nd rfl (Or.inl rfl)) pgs_nil)))
        (pss_one (ps_set (i := 2) nd rfl (Or.inl rfl) (pe_op uAdd (pv 2) (pe_df D_law_k06_words hr (by omega) (pa_cons (pv 4) pa_nil))))))
      (pss_one (ps_ret (pe_op uAdd (pv 2) (pe_lstN (pa_cons pe_str pa_nil)))))))))), ?_⟩
      refine ⟨_, rfl, ixt (i := 0) hT rfl ?_⟩
      refine ⟨_, rfl, _, t, rfl, hv, wf, fun l ls H1 e1 nl hl hP => ?_⟩
      have hlen := hP.length
      rw [List.length_map] at hlen
      have hem : ls.isEmpty = t.isLeaf := by rw [← parts_nil]; cases ls <;> cases q : t.parts <;> (rw [q] at hlen; simp at hlen ⊢)
      refine lst_new (Nat.zero_le _) fun q nq => eq_n (SqL.of ((upd_ne (ne_of_none hl nq)).trans hl)) (SqL.of upd_same) (b := t.isLeaf) (by rw [hem]; exact Bool.false_xor _) ⟨_, rfl, ?_⟩
      have e2 : Same H (upd H1 q (.lst [])) := e1.trans (same_new nq)
      generalize upd H1 q (.lst []) = H2 at e2 ⊢
      clear hP hl hlen hem nq nl e1
      refine ite2 (fun hleaf => ?_) (fun hleaf => ?_)
      · have ew : cwords t = [leafText t] := leaf_words hleaf
        rw [ew] at k
        refine fun dp nd' => ⟨upd_same, sgK, rfl, by decide, ?_⟩
        have e3' : Same H (upd (upd H2 dp (.dK [])) dp (.dK (mergeK [] sgK))) := fun b o q => by rw [upd_ne (ne_of_none (e2 b o q) nd'), upd_ne (ne_of_none (e2 b o q) nd')]; exact e2 b o q
        have hdp : upd (upd H2 dp (.dK [])) dp (.dK (mergeK [] sgK)) dp = some (.dK (mergeK [] sgK)) := upd_same
        generalize upd (upd H2 dp (.dK [])) dp (.dK (mergeK [] sgK)) = H3 at e3' hdp ⊢
        refine ⟨_, rfl, _, rfl, dp, _, rfl, DGet.k (k := .inr t.word) hdp, ⟨_, rfl, ?_⟩⟩
        have fin : ∀ p3, H3 p3 = none → Q (.ref p3) (upd H3 p3 (.lst (([leafText t] : List Str).map V.str))) := fun p3 n3 => k p3 _ (e3'.trans (same_new n3)) (e3'.free n3) upd_same
        cases t with
        | bin _ _ _ _ => cases hleaf
        | letT _ _ _ => cases hleaf
        | app _ _ _ => cases hleaf
        | name x =>
          obtain ⟨p', ee, hT'⟩ := dt_name hv
          cases ee
          have hT3 := sqs hT' e3'
          rw [sg_val]
          refine iteF ⟨_, rfl, eq_str (x := "name") (b := false) (by decide +kernel) ⟨_, rfl, iteF ?_⟩⟩
          refine ⟨_, rfl, eq_str (x := "name") (b := true) (by decide +kernel) ⟨_, rfl, iteT ⟨_, rfl, ixt (i := 1) hT3 rfl (one_st fin)⟩⟩⟩
        | count x n =>
          obtain ⟨p', ee, hT'⟩ := dt_count hv
          cases ee
          have hT3 := sqs hT' e3'
          obtain ⟨hw, h0, h1⟩ := wf
          have lx := (okW_word hw).2
          have ln := len_num h0 h1
          have l1 : (":" : Str).length = 1 := by decide +kernel
          rw [sg_val]
          refine iteF ⟨_, rfl, eq_str (x := "count") (b := false) (by decide +kernel) ⟨_, rfl, iteF ?_⟩⟩
          refine ⟨_, rfl, eq_str (x := "count") (b := false) (by decide +kernel) ⟨_, rfl, iteF ?_⟩⟩
          refine ⟨_, rfl, ixt (i := 1) hT3 rfl (add_s (line_of (by omega)) ⟨_, rfl, ixt (i := 2) hT3 rfl ⟨n, rfl, log_small h0 h1, add_s (line_of (by rw [len_app]; omega)) (one_st fin)⟩⟩)⟩
        | num w' n =>
          obtain ⟨p', ee, hT'⟩ := dt_num hv
          cases ee
          have hT3 := sqs hT' e3'
          obtain ⟨h0, h1⟩ : 0 ≤ n ∧ n < 10 ^ 18 := by rcases wf with ⟨_, a, b⟩ | ⟨_, a, b⟩ <;> (constructor <;> omega)
          have ln := len_num h0 h1
          rcases wf with ⟨rfl, _⟩ | ⟨hw, _⟩
          · rw [sg_val]
            have l1 : ("Set" : Str).length = 3 := by decide +kernel
            refine iteF ⟨_, rfl, eq_str (x := "sort") (b := true) (by decide +kernel) ⟨_, rfl, iteT ?_⟩⟩
            exact ⟨_, rfl, ixt (i := 1) hT3 rfl ⟨n, rfl, log_small h0 h1, add_s (line_of (by omega)) (one_st fin)⟩⟩
          · obtain ⟨s, es, ev, ls⟩ : ∃ s : Str, signOf w' = s ∧ valV (mergeK [] sgK) (.inr w' : Key) = some (.str s) ∧ s.length = 1 := by
              rcases hw with rfl | rfl | rfl
              · exact ⟨"$", by decide +kernel, by rw [sg_val, if_neg (by decide +kernel), if_pos rfl], by decide +kernel⟩
              · exact ⟨"#", by decide +kernel, by rw [sg_val, if_pos rfl], by decide +kernel⟩
              · exact ⟨"?", by decide +kernel, by rw [sg_val, if_neg (by decide +kernel), if_neg (by decide +kernel), if_pos rfl], by decide +kernel⟩
            have eL : leafText (.num w' n) = s ++ Str.ofString (toString n) := by show signOf w' ++ _ = _; rw [es]
            rw [eL] at fin
            have dg := DGet.k (k := .inr w') hdp
            rw [ev] at dg
            rw [show (Tm.num w' n).word = w' from rfl, ev]
            refine iteT ⟨_, rfl, _, rfl, dp, _, rfl, dg, ⟨_, rfl, ixt (i := 1) hT3 rfl ⟨n, rfl, log_small h0 h1, add_s (line_of (by omega)) (one_st fin)⟩⟩⟩
      · have hlf : t.isLeaf = false := eq_false_of_ne_true hleaf
        have ew := words_parts hlf
        have lw : t.word.length ≤ 100000 := by cases t <;> exact word_len wf rfl
        refine ⟨_, rfl, add_s (Nat.le_trans (Nat.add_le_add_left lw _) (by decide +kernel)) (one_st fun p4 n4 => ?_)⟩
        have n4H : H p4 = none := e2.free n4
        refine ⟨fun σ H' => ∃ x3 x4 x5 : Option V, σ = [some (.ref p), some (.str t.word), some (.ref p4), x3, x4, x5] ∧ Same H H' ∧ H' p4 = some (.lst ((preW t).map V.str)), ?_, ?_⟩
        · have h4 : upd H2 p4 (.lst ((["(" ++ t.word] : List Str).map V.str)) p4 = some (.lst ((["(" ++ t.word] : List Str).map V.str)) := upd_same
          have e5 : Same H (upd H2 p4 (.lst ((["(" ++ t.word] : List Str).map V.str))) := e2.trans (same_new n4)
          generalize upd H2 p4 (.lst ((["(" ++ t.word] : List Str).map V.str)) = H5 at h4 e5 ⊢
          refine ⟨_, rfl, eq_f rfl (by rw [e3]) ⟨_, rfl, ?_⟩⟩
          have up : ∀ o, Same H (upd H5 p4 o) := fun o b u q => by rw [upd_ne (ne_of_none q n4H)]; exact e5 b u q
          cases t with
          | num _ _ => cases hlf
          | name _ => cases hlf
          | count _ _ => cases hlf
          | letT a b c => exact iteF ⟨_, _, _, rfl, e5, h4⟩
          | bin w' m a b =>
            obtain ⟨p', va, vb, e, hB, ha, hb⟩ := dt_bin hv
            cases e
            refine iteT ⟨_, rfl, .inl ⟨rfl, _, SqL.of h4⟩, _, rfl, eq_f rfl (by rw [e4]; rfl) ⟨_, rfl, iteF ⟨_, rfl, ixt (i := 1) (sqs hB e5) rfl ⟨p4, _, _, rfl, rfl, h4, lt_line (Nat.le_add_left 1 999), ⟨_, _, _, rfl, up _, upd_same⟩⟩⟩⟩⟩
          | app a m b =>
            obtain ⟨p', va, vb, e, hB, ha, hb⟩ := dt_app hv
            cases e
            refine iteT ⟨_, rfl, .inl ⟨rfl, _, SqL.of h4⟩, _, rfl, eq_f rfl (by rw [e4]; rfl) ⟨_, rfl, iteT ⟨_, rfl, ixt (i := 2) (sqs hB e5) rfl ⟨p4, _, _, rfl, rfl, h4, lt_line (Nat.le_add_left 1 999), ⟨_, _, _, rfl, up _, upd_same⟩⟩⟩⟩⟩
        · rintro σ H5 ⟨x3, x4, x5, rfl, e5, h5⟩
          have lI : (cwords t).length = ((preW t).length + (t.parts.flatMap fun p => cwords p.1).length) + 1 := by rw [ew, List.length_append, List.length_append, List.length_singleton]
          refine ⟨_, rfl, _, t, rfl, hv.same e5, wf, fun l ls H6 e6 nl hl hP => ?_⟩
          have hlen := hP.length
          rw [List.length_map] at hlen
          refine ⟨l, rfl, .inl ⟨⟨ls, SqL.of hl⟩, for_list (K := K) (a := l) (xs := ls) (fun i σ H' => ∃ (q : Addr) (x3 x4 x5 : Option V), σ = [some (.ref p), some (.str t.word), some (.ref q), x3, x4, x5] ∧ Same H6 H' ∧ H' q = some (.lst ((preW t ++ (t.parts.take i).flatMap fun p => cwords p.1).map V.str)))
            ⟨p4, _, _, _, rfl, Same.refl _, by rw [List.take_zero, List.flatMap_nil, List.append_nil]; exact e6 _ _ h5⟩ (fun i σ H' _ ⟨q, _, _, _, _, c, _⟩ => SqL.of (c _ _ hl)) ?_ ?_⟩⟩
          · rintro i x σ H7 hx ⟨q, x3, x4, x5, rfl, e7, hq⟩
            obtain ⟨pt, n, a, vp, hpt, rfl, hT7, d7⟩ := parts_at (DtAll.keep (TK.same (K := K) e7) _ hP) hx
            have hmem := List.mem_of_getElem? hpt
            have hi : i < t.parts.length := (List.getElem?_eq_some_iff.mp hpt).1
            refine ⟨a, _, rfl, hT7, rfl, _, _, rfl, _, _, rfl, rfl, ?_⟩
            have dd := part_depth hd _ hmem
            have ll := flat_le (ps := t.parts) (i + 1)
            rw [List.take_succ, hpt, Option.toList_some, List.flatMap_append, List.length_append] at ll
            have l9 : (([(pt, n)] : List (Tm × Int)).flatMap fun p => cwords p.1) = cwords pt := by simp
            rw [l9] at ll
            refine ⟨_, rfl, _, rfl, ⟨_, pt, rfl, d7, part_wf wf _ hmem, dd, by omega, fun l2 H8 e8 n8 h8 => ?_⟩⟩
            refine cat_st (e8 _ _ hq) h8 (by rw [List.length_append]; omega) fun p9 n9 => ?_
            refine ⟨p9, _, _, _, rfl, (e7.trans e8).trans (same_new n9), ?_⟩
            rw [upd_same, List.take_succ, hpt, Option.toList_some, List.flatMap_append, l9, List.append_assoc]
          · rintro σ H7 ⟨q, x3, x4, x5, rfl, e7, hq⟩
            rw [hlen, List.take_length] at hq
            refine ⟨_, rfl, one_st fun p8 n8 => ?_⟩
            refine cat_st ((upd_ne (ne_of_none hq n8)).trans hq) upd_same (by rw [List.length_append, List.length_singleton]; omega) fun p9 n9 => ?_
            have e9 := ((e5.trans (e6.trans e7)).trans (same_new (o := .lst (([")"] : List Str).map V.str)) n8))
            rw [← ew]
            exact k p9 _ (e9.trans (same_new n9)) (e9.free n9) upd_same
end
end RS

/-! LTree6: _law_k06_tree, _law_k06_rows. -/
namespace RS
open PySem PySem.Spec PyProof.Rows L2 TL

theorem tm_dep {u : Tm} (h : tmOk u) : u.depth ≤ 26 := by have := depth_le u; have := h.2; omega
theorem tr_none {K : PySem.W.Frag} {H : Hp} {t : Tr} {v : V} (h : Dt K H v t.pd) : (t = .barred ∧ v = .non) ∨ (t ≠ .barred ∧ ¬ v = .non) := by
  cases t with
  | barred => unfold Tr.pd at h; cases h; exact .inl ⟨rfl, rfl⟩
  | leaf t => unfold Tr.pd at h; obtain ⟨a, xs, rfl, _⟩ := h.tupI; exact .inr ⟨fun q => (nomatch q), fun q => (nomatch q)⟩
  | split p bs => unfold Tr.pd at h; obtain ⟨a, xs, rfl, _⟩ := h.tupI; exact .inr ⟨fun q => (nomatch q), fun q => (nomatch q)⟩
def spLTr (K : PySem.W.Frag) (N : Nat) : Sp := fun vs H Q _ => ∃ (v : V) (t : Tr), vs = [v] ∧ Dt K H v t.pd ∧ t.wf ∧ t.rows.length ≤ N ∧ N ≤ 900 ∧ ∀ p H', Same H H' → H p = none → H' p = some (.lst (t.rows.map V.str)) → Q (.ref p) H'
section
variable {P : Program} {w : World} {K : PySem.W.Frag} {mg : Str → Option Value} {base : Heap}
theorem sc_law_k06_tree : FnScope ["tree", "found", "branch"] ["tree"] (defScope s_law_k06_tree) := ⟨rfl, rfl, rfl, by decide +kernel, rfl, by decide +kernel, by decide +kernel⟩
theorem ltree_none {f : Addr} {fd : FuncData} : FnOk P w K mg base CX0 29 f fd ["tree"] (spLTr K 0) := by
  refine ⟨fun vs H Q E h => ?_, fun A outer s H args us vs Q E _ _ _ _ h => ?_⟩
  · obtain ⟨v, t, rfl, _⟩ := h; rfl
  · obtain ⟨v, t, _, _, _, h1, _⟩ := h
    have := rows_pos t
    omega
theorem ok_law_tree {f : Addr} {fd : FuncData} (F : Fun K "_law_k06_tree" "_law_k06_tree" s_law_k06_tree f fd) (hm : mg "_law_k06_tree" = some (.ref f)) (b : Binds K fd ["tree"] []) (n_str : mg "str" = none) (n_len : mg "len" = none)
    (D_law_k06_words : Df P w K mg base "_law_k06_words" 28 ["term"] (spCW K 26)) : ∀ N, FnOk P w K mg base CX0 (N + 29) f fd ["tree"] (spLTr K N)
  | 0 => ltree_none
  | N + 1 => by
    have D_law_k06_tree : Df P w K mg base "_law_k06_tree" (N + 29) ["tree"] (spLTr K N) := ⟨f, fd, ok_law_tree F hm b n_str n_len D_law_k06_words N, hm, F.kp, b⟩
    refine F.ok sc_law_k06_tree (fun vs H Q E h => ?_) (fun cdv A outer s H vs Q E hr h => ?_)
    · obtain ⟨v, t, rfl, _⟩ := h; rfl
    · obtain ⟨v, t, rfl, hv, wf, hn, hN, k⟩ := h
      have nd := sc_law_k06_tree.nd
      refine ⟨_, (pss_cons (ps_if (pt_cmpR op_isN (pv 0) pe_non (nomark _))
        (pss_one (ps_ret (pe_lstN (pa_cons pe_str pa_nil))))
        pss_nil)
      (pss_cons (ps_if (pt_cmpR (uEq hr.units) (pe_ix ix_seq (pv 0) pe_int (fun _ _ => rfl)) pe_str (nomark _))
        (pss_one (ps_ret (pe_lstN (pa_cons (pe_join pe_str (pe_op uAdd (pe_lstN (pa_cons pe_str pa_nil)) (pe_df D_law_k06_words hr (by omega) (pa_cons (pe_ix ix_seq (pv 0) pe_int (fun _ _ => rfl)) pa_nil)))) pa_nil))))
        pss_nil)
      (pss_cons (ps_set (i := 1) nd rfl (Or.inl rfl) (pe_lstN (pa_cons (pe_op uAdd (pe_op uAdd (pe_op uAdd pe_str (pe_callTy call_str_int (by rfl) n_str (by decide +kernel) (pa_cons (pe_ix ix_seq (pv 0) pe_int (fun _ _ => rfl)) pa_nil))) pe_str) (pe_callTy call_str_int (by rfl) n_str (by decide +kernel) (pa_cons (pe_callB uLen (by rfl) n_len (by decide +kernel) (pa_cons (pe_ix ix_seq (pv 0) pe_int (fun _ _ => rfl)) pa_nil)) pa_nil))) pa_nil)))
      (pss_cons (ps_for PassesOwn.never rfl (pi_seq (pe_ix ix_seq (pv 0) pe_int (fun _ _ => rfl))) (pg_name (i := 2) nd rfl (Or.inl rfl))
        (pss_one (ps_set (i := 1) nd rfl (Or.inl rfl) (pe_op uAdd (pv 1) (pe_df D_law_k06_tree hr (by omega) (pa_cons (pv 2) pa_nil))))))
      (pss_one (ps_ret (pv 1))))))), ?_⟩
      cases t with
      | barred =>
        unfold Tr.pd at hv
        cases hv
        refine ⟨_, rfl, rfl, _, rfl, iteT (lst_new (xs := [.str "barred"]) (by show 1 ≤ 1000; decide) fun p np => k p _ (same_new np) np ?_)⟩
        unfold Tr.rows
        exact upd_same
      | leaf u =>
        unfold Tr.pd at hv
        obtain ⟨a, xs, rfl, hT, hD⟩ := hv.tupI
        obtain ⟨v1, r1, rfl, d1, hD⟩ := hD.consI
        obtain ⟨v2, r2, rfl, d2, hD⟩ := hD.consI
        obtain rfl := hD.nilI
        obtain rfl := d1.strI
        have wfu : tmOk u := by unfold Tr.wf at wf; exact wf
        have hwl := wfu.2
        have okw := okW_words u wfu.1
        refine ⟨_, rfl, rfl, _, rfl, iteF ?_⟩
        refine ⟨_, rfl, ixt (i := 0) hT rfl (eq_str (b := true) (by decide +kernel) ⟨_, rfl, iteT ?_⟩)⟩
        refine ⟨⟨_, rfl⟩, lst_new (xs := (["leaf"] : List Str).map V.str) (by show 1 ≤ 1000; decide) fun p np => ?_⟩
        have e1 : Same H (upd H p (.lst ((["leaf"] : List Str).map V.str))) := same_new np
        have h1 : upd H p (.lst ((["leaf"] : List Str).map V.str)) p = some (.lst ((["leaf"] : List Str).map V.str)) := upd_same
        generalize upd H p (.lst ((["leaf"] : List Str).map V.str)) = H1 at e1 h1 ⊢
        refine ⟨_, rfl, ixt (i := 1) (sqs hT e1) rfl ⟨v2, u, rfl, d2.same e1, wfu.1, tm_dep wfu, by omega, fun l H2 e2 n2 h2 => ?_⟩⟩
        refine cat_st (e2 _ _ h1) h2 (by show 1 + _ ≤ 5100; omega) fun q nq => ?_
        have ok1 : ∀ z ∈ ("leaf" : Str) :: cwords u, okW z := fun z hz => by
          rcases List.mem_cons.mp hz with rfl | hz
          · decide +kernel
          · exact okw z hz
        refine ⟨" ", q, _, rfl, rfl, .inl (SqL.of upd_same), Nat.le_trans (join_len (("leaf" : Str) :: cwords u) ok1) (by rw [List.length_cons]; omega), ?_⟩
        refine lst_new (xs := [.str (Txt.join " " ((["leaf"] : List Str) ++ cwords u))]) (by show 1 ≤ 1000; decide) fun r nr => ?_
        have e3 := (e1.trans e2).trans (same_new (o := .lst (((["leaf"] : List Str) ++ cwords u).map V.str)) nq)
        refine k r _ (e3.trans (same_new nr)) (e3.free nr) ?_
        unfold Tr.rows
        exact upd_same
      | split p0 bs =>
        unfold Tr.pd at hv
        obtain ⟨a, xs, rfl, hT, hD⟩ := hv.tupI
        obtain ⟨v1, r1, rfl, d1, hD⟩ := hD.consI
        obtain ⟨v2, r2, rfl, d2, hD⟩ := hD.consI
        obtain ⟨v3, r3, rfl, d3, hD⟩ := hD.consI
        obtain rfl := hD.nilI
        obtain rfl := d1.strI
        obtain rfl := d2.intI
        have wfb : p0 ≤ 1000000 ∧ bs.length ≤ 1000000 ∧ wfL bs := by unfold Tr.wf at wf; exact wf
        have hrl : (Tr.split p0 bs).rows.length = sumR bs + 1 := by rw [Tr.rows, List.length_cons, sumR_rowsL]
        rw [hrl] at hn
        rw [pdL_map] at d3
        obtain ⟨a3, xs3, rfl, hT3, hD3⟩ := d3.tupI
        have lx : xs3.length = bs.length := by rw [hD3.length, List.length_map]
        have lb := len_sumR bs
        have n1 : (Str.ofString (toString (p0 : Int))).length ≤ 18 := numS_len (n := p0) (by omega)
        have n2 : (Str.ofString (toString ((bs.length : Nat) : Int))).length ≤ 18 := numS_len (n := bs.length) (by omega)
        have l5 : ("split " : Str).length = 6 := by decide +kernel
        have l6 : (" " : Str).length = 1 := by decide +kernel
        refine ⟨_, rfl, rfl, _, rfl, iteF ?_⟩
        refine ⟨_, rfl, ixt (i := 0) hT rfl (eq_str (b := false) (by decide +kernel) ⟨_, rfl, iteF ?_⟩)⟩
        refine ⟨_, rfl, ixt (i := 1) hT rfl ⟨_, rfl, log_small (by omega) (by omega), add_s (line_of (by omega)) (add_s (line_of (by rw [len_app]; omega)) ⟨_, rfl, ixt (i := 2) hT rfl ⟨_, bs.length, rfl, .inr ⟨_, hT3, lx.symm⟩, ⟨_, rfl, log_small (by omega) (by omega), add_s (line_of (by rw [len_app, len_app]; omega)) ?_⟩⟩⟩)⟩⟩
        refine lst_new (xs := ([("split " ++ numS p0 ++ " " ++ numS bs.length)] : List Str).map V.str) (by show 1 ≤ 1000; decide) fun lr nlr => ?_
        rw [← split_row]
        have e2 : Same H (upd H lr (.lst (([row ["split", numS p0, numS bs.length]] : List Str).map V.str))) := same_new nlr
        have h2 : upd H lr (.lst (([row ["split", numS p0, numS bs.length]] : List Str).map V.str)) lr = some (.lst (([row ["split", numS p0, numS bs.length]] : List Str).map V.str)) := upd_same
        generalize upd H lr (.lst (([row ["split", numS p0, numS bs.length]] : List Str).map V.str)) = H2 at e2 h2 ⊢
        refine ⟨_, rfl, ixt (i := 2) (sqs hT e2) rfl ⟨a3, rfl, .inr ⟨⟨_, sqs hT3 e2⟩, for_tup (K := K) (a := a3) (xs := xs3)
          (fun i σ H3 => ∃ (lr : Addr) (x2 : Option V), σ = [some (.ref a), some (.ref lr), x2] ∧ Same H H3 ∧ H lr = none ∧ H3 lr = some (.lst ((row ["split", numS p0, numS bs.length] :: rowsL (bs.take i)).map V.str)))
          ⟨lr, none, rfl, e2, nlr, by rw [List.take_zero, show rowsL [] = [] by unfold rowsL; rfl]; exact h2⟩ (fun i σ H3 _ ⟨_, _, _, e3, _⟩ => sqs hT3 e3) ?_ ?_⟩⟩⟩
        · rintro i vx σ H3 hi ⟨lr, x2, rfl, e3, nlr, hl3⟩
          obtain ⟨dm, hdm, dx⟩ := (DtAll.keep (TK.same e3) _ hD3).get hi
          rw [List.getElem?_map] at hdm
          obtain ⟨bt, hbt, rfl⟩ := Option.map_eq_some_iff.mp hdm
          have hmem := List.mem_of_getElem? hbt
          have hsp : sumR (bs.take i) + bt.rows.length ≤ sumR bs := by
            have e : bs.take (i + 1) = bs.take i ++ [bt] := take_snoc hbt
            have h1 : sumR bs = sumR (bs.take (i + 1)) + sumR (bs.drop (i + 1)) := by rw [← sumR_app, List.take_append_drop]
            rw [e, sumR_app, sumR_one] at h1
            omega
          refine ⟨_, rfl, _, rfl, vx, bt, rfl, dx, (wfL_iff bs).mp wfb.2.2 bt hmem, by omega, by omega, fun q H4 e4 n4 h4 => ?_⟩
          refine cat_st (e4 _ _ hl3) h4 (by rw [List.length_cons, sumR_rowsL]; omega) fun r nr => ?_
          refine ⟨r, _, rfl, (e3.trans e4).trans (same_new nr), (e3.trans e4).free nr, ?_⟩
          rw [take_snoc hbt, rowsL_app, rowsL_one, ← List.cons_append]
          exact upd_same
        · rintro σ H3 ⟨lr, x2, rfl, e3, nlr, hl3⟩
          rw [lx, List.take_length] at hl3
          refine ⟨_, rfl, k lr _ e3 nlr ?_⟩
          rw [show (Tr.split p0 bs).rows = row ["split", numS p0, numS bs.length] :: rowsL bs by unfold Tr.rows; rfl]
          exact hl3
end
end RS

/-! LRows6: _law_k06_rows. -/
namespace RS
open PySem PySem.Spec PyProof.Rows L2 TL

theorem pe_joinK {X : Cx} {K : PySem.W.Frag} {o e : Expr} {to te : TE} {apos pos : Pos} (h : X.K = K) (ho : PE X o to) (he : PE X e te) (hs : starEach [e] X.env = [(false, eval e X.env)] := by rfl) (hbase : attributeBase o "join" X.env (eval o X.env) = eval o X.env := by rfl) (hline : (apos.endLine == pos.line) = true := by rfl) :
    PE X (.Call (.Attribute o "join" apos) [e] [] pos) (tM1 (fun x xs H Q => ∃ a p, ∃ ys : List Str, x = .str a ∧ xs = [.ref p] ∧ (SqL K H p (ys.map V.str) ∨ SqT K H p (ys.map V.str)) ∧
      (ys.map (·.length)).sum + ys.length * a.length ≤ 16777216 ∧ Q (.str (Txt.join a ys)) H) to te) := by
  subst h
  exact pe_join ho he hs hbase hline
def spLR (K : PySem.W.Frag) : Sp := fun vs H Q _ => ∃ (v : V) (d : Dcl), vs = [v] ∧ Dt K H v d.pd ∧ d.wf ∧ d.rows.length ≤ 42 ∧ ∀ p H', Same H H' → H p = none → H' p = some (.lst (d.rows.map V.str)) → Q (.ref p) H'
theorem okW_cons {a : Str} {u : Tm} (ha : okW a) (h : u.wf) : ∀ z ∈ a :: cwords u, okW z := fun z hz => by
  rcases List.mem_cons.mp hz with rfl | hz
  · exact ha
  · exact okW_words u h z hz
section
variable {P : Program} {w : World} {K : PySem.W.Frag} {mg : Str → Option Value} {base : Heap}
theorem sc_law_k06_rows : FnScope ["one", "at", "found", "name", "type_here"] ["one"] (defScope s_law_k06_rows) := ⟨rfl, rfl, rfl, by decide +kernel, rfl, by decide +kernel, by decide +kernel⟩
theorem ok_law_rows {f : Addr} {fd : FuncData} (F : Fun K "_law_k06_rows" "_law_k06_rows" s_law_k06_rows f fd) (n_str : mg "str" = none) (n_len : mg "len" = none)
    (D_law_k06_words : Df P w K mg base "_law_k06_words" 28 ["term"] (spCW K 26)) (D_law_k06_tree : Df P w K mg base "_law_k06_tree" 71 ["tree"] (spLTr K 42)) : FnOk P w K mg base CX0 72 f fd ["one"] (spLR K) := by
  refine F.ok sc_law_k06_rows (fun vs H Q E h => ?_) (fun cdv A outer s H vs Q E hr h => ?_)
  · obtain ⟨v, d, rfl, _⟩ := h; rfl
  · obtain ⟨v, d, rfl, hv, wf, hn, k⟩ := h
    have nd := sc_law_k06_rows.nd
    refine ⟨_, (pss_cons (ps_if (pt_cmpR (uEq hr.units) (pe_ix ix_seq (pv 0) pe_int (fun _ _ => rfl)) pe_str (nomark _))
        (pss_cons (ps_set (i := 2) nd rfl (Or.inl rfl) (pe_lstN (pa_cons (pe_join pe_str (pe_lstN (pa_cons pe_str (pa_cons (pe_ix ix_seq (pv 0) pe_int (fun _ _ => rfl)) (pa_cons (pe_callTy call_str_int (by rfl) n_str (by decide +kernel) (pa_cons (pe_ix ix_seq (pv 0) pe_int (fun _ _ => rfl)) pa_nil)) (pa_cons (pe_callTy call_str_int (by rfl) n_str (by decide +kernel) (pa_cons (pe_callB uLen (by rfl) n_len (by decide +kernel) (pa_cons (pe_ix ix_seq (pv 0) pe_int (fun _ _ => rfl)) pa_nil)) pa_nil)) pa_nil)))))) (pa_cons (pe_join pe_str (pe_op uAdd (pe_lstN (pa_cons pe_str pa_nil)) (pe_df D_law_k06_words hr (by omega) (pa_cons (pe_ix ix_seq (pv 0) pe_int (fun _ _ => rfl)) pa_nil)))) pa_nil))))
        (pss_one (ps_ret (pe_op uAdd (pv 2) (pe_lc (own := [("name", 3), ("type_here", 4)]) (g := gTup K 2 (gCons (gName 3) (gCons (gName 4) gNil))) rfl nd (pi_seq (pe_ix ix_seq (pv 0) pe_int (fun _ _ => rfl))) (blkOk_by (own := [("name", 3), ("type_here", 4)]) (N := ["one", "at", "found", "name", "type_here"]) (sc := defScope s_law_k06_rows) (by decide +kernel)) (fun _ _ _ _ _ => (pg_tup rfl (pgs_cons (pg_name (i := 3) nd rfl (Or.inl rfl)) (pgs_cons (pg_name (i := 4) nd rfl (Or.inl rfl)) pgs_nil)))) (fun _ _ _ _ _ => pts_nil) (fun _ _ _ _ _ => (pe_joinK (K := K) rfl pe_str (pe_op (uAddK (K := K) rfl) (pe_lstN (pa_cons pe_str (pa_cons (pv 3) pa_nil))) (pe_df D_law_k06_words hr (by omega) (pa_cons (pv 4) pa_nil))))))))))
        pss_nil)
      (pss_cons (ps_set (i := 1) nd rfl (Or.inl rfl) (pe_ifExp (pt_cmpR op_isN (pe_ix ix_seq (pv 0) pe_int (fun _ _ => rfl)) pe_non (nomark _)) pe_str (pe_callTy call_str_int (by rfl) n_str (by decide +kernel) (pa_cons (pe_ix ix_seq (pv 0) pe_int (fun _ _ => rfl)) pa_nil))))
      (pss_cons (ps_set (i := 2) nd rfl (Or.inl rfl) (pe_lstN (pa_cons (pe_join pe_str (pe_lstN (pa_cons pe_str (pa_cons (pe_ix ix_seq (pv 0) pe_int (fun _ _ => rfl)) (pa_cons (pe_callTy call_str_int (by rfl) n_str (by decide +kernel) (pa_cons (pe_ix ix_seq (pv 0) pe_int (fun _ _ => rfl)) pa_nil)) (pa_cons (pv 1) (pa_cons (pe_ifExp (pt_val (pe_ix ix_seq (pv 0) pe_int (fun _ _ => rfl))) pe_str pe_str) pa_nil))))))) (pa_cons (pe_join pe_str (pe_op uAdd (pe_lstN (pa_cons pe_str pa_nil)) (pe_df D_law_k06_words hr (by omega) (pa_cons (pe_ix ix_seq (pv 0) pe_int (fun _ _ => rfl)) pa_nil)))) pa_nil))))
      (pss_one (ps_ret (pe_op uAdd (pv 2) (pe_df D_law_k06_tree hr (by omega) (pa_cons (pe_ix ix_seq (pv 0) pe_int (fun _ _ => rfl)) pa_nil)))))))), ?_⟩
    have l2 : (" " : Str).length = 1 := by decide +kernel
    cases d with
    | kind x many ty mk =>
      unfold Dcl.pd at hv
      obtain ⟨a, xs, rfl, hT, hD⟩ := hv.tupI
      obtain ⟨v1, r1, rfl, d1, hD⟩ := hD.consI
      obtain ⟨v2, r2, rfl, d2, hD⟩ := hD.consI
      obtain ⟨v3, r3, rfl, d3, hD⟩ := hD.consI
      obtain ⟨v4, r4, rfl, d4, hD⟩ := hD.consI
      obtain ⟨v5, r5, rfl, d5, hD⟩ := hD.consI
      obtain rfl := hD.nilI
      obtain rfl := d1.strI
      obtain rfl := d2.strI
      obtain rfl := d3.intI
      obtain ⟨a5, xs5, rfl, hT5, hD5⟩ := d5.tupI
      obtain ⟨hx, hm, hty, hmk, hmks⟩ := wf
      have hx' := (okW_word (word_cap hx)).2
      have lx : xs5.length = mk.length := by rw [hD5.length, List.length_map]
      have hn' : mk.length + 2 ≤ 42 := by unfold Dcl.rows at hn; simp at hn; omega
      have n1 : (numS many).length ≤ 18 := numS_len (n := many) (by omega)
      have n2 : (numS mk.length).length ≤ 18 := numS_len (n := mk.length) (by omega)
      refine ⟨_, rfl, ixt (i := 0) hT rfl (eq_str (b := true) (by decide +kernel) ⟨_, rfl, iteT ?_⟩)⟩
      refine ⟨⟨_, rfl⟩, _, rfl, ixt (i := 1) hT rfl ⟨_, rfl, ixt (i := 2) hT rfl ⟨_, rfl, log_small (by omega) (by omega), ⟨_, rfl, ixt (i := 4) hT rfl ⟨_, mk.length, rfl, .inr ⟨_, hT5, lx.symm⟩, ⟨_, rfl, log_small (by omega) (by omega), lst_new (xs := (["kind", x, numS many, numS mk.length] : List Str).map V.str) (Nat.le_add_left 4 996) fun la nla => ⟨" ", la, _, rfl, rfl, .inl (SqL.of upd_same), ?_, ?_⟩⟩⟩⟩⟩⟩⟩
      · have m4 : ("kind" : Str).length = 4 := by decide +kernel
        rw [l2]
        simp only [List.map_cons, List.map_nil, List.sum_cons, List.sum_nil, List.length_cons, List.length_nil, m4]
        omega
      have e1 : Same H (upd H la (.lst ((["kind", x, numS many, numS mk.length] : List Str).map V.str))) := same_new nla
      generalize upd H la (.lst ((["kind", x, numS many, numS mk.length] : List Str).map V.str)) = H1 at e1 ⊢
      refine ⟨⟨_, rfl⟩, lst_new (xs := (["type"] : List Str).map V.str) (by show 1 ≤ 1000; decide) fun p np => ?_⟩
      have e2 : Same H (upd H1 p (.lst ((["type"] : List Str).map V.str))) := e1.trans (same_new np)
      have h2 : upd H1 p (.lst ((["type"] : List Str).map V.str)) p = some (.lst ((["type"] : List Str).map V.str)) := upd_same
      generalize upd H1 p (.lst ((["type"] : List Str).map V.str)) = H2 at e2 h2 ⊢
      have hwl := hty.1.2
      refine ⟨_, rfl, ixt (i := 3) (sqs hT e2) rfl ⟨v4, ty, rfl, d4.same e2, hty.1.1, tm_dep hty.1, by omega, fun l H3 e3 n3 h3 => ?_⟩⟩
      refine cat_st (e3 _ _ h2) h3 (by show 1 + _ ≤ 5100; omega) fun q nq => ?_
      refine ⟨" ", q, _, rfl, rfl, .inl (SqL.of upd_same), Nat.le_trans (join_len (("type" : Str) :: cwords ty) (okW_cons (by decide +kernel) hty.1.1)) (by rw [List.length_cons]; omega), ?_⟩
      have e4 : Same H (upd H3 q (.lst (((["type"] : List Str) ++ cwords ty).map V.str))) := (e2.trans e3).trans (same_new nq)
      generalize upd H3 q (.lst (((["type"] : List Str) ++ cwords ty).map V.str)) = H4 at e4 ⊢
      refine lst_new (xs := ([row ["kind", x, numS many, numS mk.length], row ("type" :: cwords ty)] : List Str).map V.str) (by show 2 ≤ 1000; decide) fun lr nlr => ?_
      have e5 : Same H (upd H4 lr (.lst (([row ["kind", x, numS many, numS mk.length], row ("type" :: cwords ty)] : List Str).map V.str))) := e4.trans (same_new nlr)
      have h5 : upd H4 lr (.lst (([row ["kind", x, numS many, numS mk.length], row ("type" :: cwords ty)] : List Str).map V.str)) lr = some (.lst (([row ["kind", x, numS many, numS mk.length], row ("type" :: cwords ty)] : List Str).map V.str)) := upd_same
      generalize upd H4 lr (.lst (([row ["kind", x, numS many, numS mk.length], row ("type" :: cwords ty)] : List Str).map V.str)) = H5 at e5 h5 ⊢
      have hT54 := sqs hT5 e5
      have hD4 := DtAll.keep (TK.same e5) _ hD5
      refine ⟨_, rfl, _, rfl, ixt (i := 4) (sqs hT e5) rfl ⟨a5, rfl, .inr ⟨⟨xs5, hT54⟩, fun D nD => lc_tup (K := K) (a := a5) (xs := xs5) (fun i H6 => Same H5 H6 ∧ H6 D = some (.lst (((mk.take i).map mkR).map V.str))) ⟨same_new nD, upd_same⟩ (fun i H5 _ ⟨c1, _⟩ => sqs hT54 c1) (fun i vx H6 hi ⟨c1, hD⟩ => ?_) (fun H6 ⟨c1, hD⟩ => ?_)⟩⟩⟩
      · obtain ⟨dm, hdm, dx⟩ := (DtAll.keep (TK.same c1) _ hD4).get hi
        rw [List.getElem?_map] at hdm
        obtain ⟨mp, hmp, rfl⟩ := Option.map_eq_some_iff.mp hdm
        obtain ⟨hcm, hck⟩ := hmks mp (List.mem_of_getElem? hmp)
        have hil : i < mk.length := (List.getElem?_eq_some_iff.mp hmp).1
        unfold mkD at dx
        obtain ⟨am, xm, rfl, hTm, hDm⟩ := dx.tupI
        obtain ⟨w1, q1, rfl, f1, hDm⟩ := hDm.consI
        obtain ⟨w2, q2, rfl, f2, hDm⟩ := hDm.consI
        obtain rfl := hDm.nilI
        obtain rfl := f1.strI
        have hwl := hck.1.2
        have ok1 : ∀ z ∈ ("maker" : Str) :: mp.1 :: cwords mp.2, okW z := fun z hz => by
          rcases List.mem_cons.mp hz with rfl | hz
          · decide +kernel
          · exact okW_cons ⟨(okW_word (word_cap hcm)).1, Nat.le_trans (okW_word (word_cap hcm)).2 (by decide)⟩ hck.1.1 z hz
        refine ⟨am, _, rfl, hTm, rfl, _, _, rfl, _, _, rfl, rfl, rfl, ⟨_, rfl⟩, _, rfl, lst_new (xs := (["maker", mp.1] : List Str).map V.str) (by show 2 ≤ 1000; decide) fun p np => ?_⟩
        have e7 : Same H6 (upd H6 p (.lst ((["maker", mp.1] : List Str).map V.str))) := same_new np
        have h7 : upd H6 p (.lst ((["maker", mp.1] : List Str).map V.str)) p = some (.lst ((["maker", mp.1] : List Str).map V.str)) := upd_same
        generalize upd H6 p (.lst ((["maker", mp.1] : List Str).map V.str)) = H7 at e7 h7 ⊢
        refine ⟨_, rfl, ⟨w2, mp.2, rfl, f2.same e7, hck.1.1, tm_dep hck.1, by omega, fun l H8 e8 n8 h8 => ?_⟩⟩
        refine cat_st (e8 _ _ h7) h8 (by show 2 + _ ≤ 5100; omega) fun q nq => ?_
        refine ⟨" ", q, _, rfl, rfl, .inl (SqL.of upd_same), Nat.le_trans (join_len (("maker" : Str) :: mp.1 :: cwords mp.2) ok1) (by rw [List.length_cons, List.length_cons]; omega), ?_⟩
        have e9 : Same H6 (upd H8 q (.lst (((["maker", mp.1] : List Str) ++ cwords mp.2).map V.str))) := (e7.trans e8).trans (same_new nq)
        refine ⟨_, e9 _ _ hD, lt_line (by rw [List.length_map, List.length_map, List.length_take]; omega), sameL (c1.trans e9) nD, ?_⟩
        have e10 : (((mk.take (i + 1)).map mkR).map V.str) = (((mk.take i).map mkR).map V.str) ++ [V.str (mkR mp)] := by
          rw [List.take_succ, hmp, List.map_append, List.map_append]; rfl
        rw [e10]
        exact upd_same
      · rw [lx, List.take_length] at hD
        refine cat_st (c1 _ _ h5) hD (by rw [List.length_map]; show 2 + mk.length ≤ 5100; omega) fun p np => ?_
        have e7 := (e5.trans c1).trans (same_new (o := .lst (([row ["kind", x, numS many, numS mk.length], row ("type" :: cwords ty)] ++ mk.map mkR).map V.str)) np)
        exact k p _ e7 ((e5.trans c1).free np) (by unfold Dcl.rows; exact upd_same)
    | fn x ty many at_ tree shut =>
      unfold Dcl.pd at hv
      obtain ⟨a, xs, rfl, hT, hD⟩ := hv.tupI
      obtain ⟨v1, r1, rfl, d1, hD⟩ := hD.consI
      obtain ⟨v2, r2, rfl, d2, hD⟩ := hD.consI
      obtain ⟨v3, r3, rfl, d3, hD⟩ := hD.consI
      obtain ⟨v4, r4, rfl, d4, hD⟩ := hD.consI
      obtain ⟨v5, r5, rfl, d5, hD⟩ := hD.consI
      obtain ⟨v6, r6, rfl, d6, hD⟩ := hD.consI
      obtain ⟨v7, r7, rfl, d7, hD⟩ := hD.consI
      obtain rfl := hD.nilI
      obtain rfl := d1.strI
      obtain rfl := d2.strI
      obtain rfl := d4.intI
      cases d7
      obtain ⟨hx, hm, hty, hat, htr, hnb⟩ := wf
      obtain rfl : v5 = atV at_ := by
        cases at_ with
        | none => cases d5; rfl
        | some q => exact d5.intI
      have hx' := (okW_word (word_sm hx)).2
      have hn' : tree.rows.length + 2 ≤ 42 := by unfold Dcl.rows at hn; simp at hn; omega
      have n1 : (numS many).length ≤ 18 := numS_len (n := many) (by omega)
      have hat' : ∀ q, at_ = some q → q < 10 ^ 18 := fun q e => by have := hat q e; omega
      refine ⟨_, rfl, ixt (i := 0) hT rfl (eq_str (b := false) (by decide +kernel) ⟨_, rfl, iteF ?_⟩)⟩
      refine if_at (K := K) rfl hT rfl hat' ?_
      refine ⟨⟨_, rfl⟩, _, rfl, ixt (i := 1) hT rfl ⟨_, rfl, ixt (i := 3) hT rfl ⟨_, rfl, log_small (by omega) (by omega), ⟨_, rfl, if_shut (K := K) rfl hT rfl (lst_new (xs := (["function", x, numS many, atS at_, shutS shut] : List Str).map V.str) (Nat.le_add_left 5 995) fun la nla => ⟨" ", la, _, rfl, rfl, .inl (SqL.of upd_same), ?_, ?_⟩)⟩⟩⟩⟩
      · have m1 : (numS many).length ≤ 18 := n1
        have m2 := atS_len hat'
        have m3 := shutS_len shut
        have m4 : ("function" : Str).length = 8 := by decide +kernel
        rw [l2]
        simp only [List.map_cons, List.map_nil, List.sum_cons, List.sum_nil, List.length_cons, List.length_nil, m4]
        omega
      have e1 : Same H (upd H la (.lst ((["function", x, numS many, atS at_, shutS shut] : List Str).map V.str))) := same_new nla
      generalize upd H la (.lst ((["function", x, numS many, atS at_, shutS shut] : List Str).map V.str)) = H1 at e1 ⊢
      refine ⟨⟨_, rfl⟩, lst_new (xs := (["type"] : List Str).map V.str) (by show 1 ≤ 1000; decide) fun p np => ?_⟩
      have e2 : Same H (upd H1 p (.lst ((["type"] : List Str).map V.str))) := e1.trans (same_new np)
      have h2 : upd H1 p (.lst ((["type"] : List Str).map V.str)) p = some (.lst ((["type"] : List Str).map V.str)) := upd_same
      generalize upd H1 p (.lst ((["type"] : List Str).map V.str)) = H2 at e2 h2 ⊢
      have hwl := hty.1.2
      refine ⟨_, rfl, ixt (i := 2) (sqs hT e2) rfl ⟨v3, ty, rfl, d3.same e2, hty.1.1, tm_dep hty.1, by omega, fun l H3 e3 n3 h3 => ?_⟩⟩
      refine cat_st (e3 _ _ h2) h3 (by show 1 + _ ≤ 5100; omega) fun q nq => ?_
      refine ⟨" ", q, _, rfl, rfl, .inl (SqL.of upd_same), Nat.le_trans (join_len (("type" : Str) :: cwords ty) (okW_cons (by decide +kernel) hty.1.1)) (by rw [List.length_cons]; omega), ?_⟩
      have e4 : Same H (upd H3 q (.lst (((["type"] : List Str) ++ cwords ty).map V.str))) := (e2.trans e3).trans (same_new nq)
      generalize upd H3 q (.lst (((["type"] : List Str) ++ cwords ty).map V.str)) = H4 at e4 ⊢
      refine lst_new (xs := ([row ["function", x, numS many, atS at_, shutS shut], row ("type" :: cwords ty)] : List Str).map V.str) (by show 2 ≤ 1000; decide) fun lr nlr => ?_
      have e5 : Same H (upd H4 lr (.lst (([row ["function", x, numS many, atS at_, shutS shut], row ("type" :: cwords ty)] : List Str).map V.str))) := e4.trans (same_new nlr)
      have h5 : upd H4 lr (.lst (([row ["function", x, numS many, atS at_, shutS shut], row ("type" :: cwords ty)] : List Str).map V.str)) lr = some (.lst (([row ["function", x, numS many, atS at_, shutS shut], row ("type" :: cwords ty)] : List Str).map V.str)) := upd_same
      generalize upd H4 lr (.lst (([row ["function", x, numS many, atS at_, shutS shut], row ("type" :: cwords ty)] : List Str).map V.str)) = H5 at e5 h5 ⊢
      refine ⟨_, rfl, _, rfl, ixt (i := 5) (sqs hT e5) rfl ⟨v6, tree, rfl, d6.same e5, htr, by omega, by decide, fun p H6 e6 n6 h6 => ?_⟩⟩
      refine cat_st (e6 _ _ h5) h6 (by show 2 + tree.rows.length ≤ 5100; omega) fun q nq => ?_
      exact k q _ ((e5.trans e6).trans (same_new nq)) ((e5.trans e6).free nq) (by unfold Dcl.rows; exact upd_same)
end
end RS

/-! Kind4: _law_rk_kind; _law_caught of a lambda. -/
namespace RS
open PySem PySem.Spec PyProof.Rows L2 LamX

/-- the words for a class -/
structure KindOf (K : PySem.W.Frag) (CE CM CD CT : Addr) (C : Addr) (r : Str) : Prop where
  e : PySem.W.kitOne K (.ref C) (.ref CE) = some true
  v : PySem.W.kitOne K (.ref C) (.type "ValueError") = some true
  r : ∃ b1 b2 b3 : Bool, PySem.W.kitOne K (.ref C) (.ref CM) = some b1 ∧ PySem.W.kitOne K (.ref C) (.ref CD) = some b2 ∧ PySem.W.kitOne K (.ref C) (.ref CT) = some b3 ∧ r = (if b1 = true then "term " else "") ++ (if b2 = true then "declaration " else "") ++ (if b3 = true then "text " else "")
structure rRK (K : PySem.W.Frag) (CE CM CD CT : Addr) (vs : List V) (H : Hp) (Q : VK) : Prop where
  ex : ∃ (a C : Addr) (r : Str), vs = [.ref a] ∧ ExC K H a (.ref C) ∧ KindOf K CE CM CD CT C r ∧ Q (.str r) H
def spRK (K : PySem.W.Frag) (CE CM CD CT : Addr) : Sp := fun vs H Q _ => rRK K CE CM CD CT vs H Q
section
variable {P : Program} {w : World} {K : PySem.W.Frag} {mg : Str → Option Value} {base : Heap}
theorem sc_law_rk_kind : FnScope ["error", "found"] ["error"] (defScope s_law_rk_kind) := ⟨rfl, rfl, rfl, by decide +kernel, rfl, by decide +kernel, by decide +kernel⟩
theorem ok_rk_kind {f CE CM CD CT : Addr} {fd : FuncData} (F : Fun K "_law_rk_kind" "_law_rk_kind" s_law_rk_kind f fd) (n_isinstance : mg "isinstance" = none) (n_ValueError : mg "ValueError" = none) (g_TongueError : mg "TongueError" = some (.ref CE)) (g_BadTerm : mg "BadTerm" = some (.ref CM)) (g_BadDeclaration : mg "BadDeclaration" = some (.ref CD)) (g_BadText : mg "BadText" = some (.ref CT)) :
    FnOk P w K mg base CX0 1 f fd ["error"] (spRK K CE CM CD CT) := by
  refine F.ok sc_law_rk_kind (fun vs H Q E h => ?_) (fun cdv A outer s H vs Q E hr h => ?_)
  · obtain ⟨a, C, r, rfl, _⟩ := h.ex; rfl
  · obtain ⟨a, C, r, rfl, hx, hk, k⟩ := h.ex
    clear h
    have nd := sc_law_rk_kind.nd
    refine ⟨_, (pss_cons (ps_if (pt_w (PW.pt (pw_and (pt_cmpR op_notN (pv 0) pe_non (nomark _)) (pw_and1 (pt_w (PW.pt (pw_or (pt_not (pt_val (pe_callB call_isC (by rfl) n_isinstance (by decide +kernel) (pa_cons (pv 0) (pa_cons (pe_glob (v := .ref _) rfl g_TongueError rfl) pa_nil))))) (pw_or1 (pt_not (pt_val (pe_callB call_isC (by rfl) n_isinstance (by decide +kernel) (pa_cons (pv 0) (pa_cons (pe_bltn (v := .ty "ValueError") rfl n_ValueError Boot.«ValueError» rfl) pa_nil)))))))))))))
        (pss_one (ps_ret pe_str))
        pss_nil)
      (pss_cons (ps_set (i := 1) nd rfl (Or.inl rfl) (pe_ifExp (pt_val (pe_callB call_isC (by rfl) n_isinstance (by decide +kernel) (pa_cons (pv 0) (pa_cons (pe_glob (v := .ref _) rfl g_BadTerm rfl) pa_nil)))) pe_str pe_str))
      (pss_one (ps_ret (pe_op uAdd (pe_op uAdd (pv 1) (pe_ifExp (pt_val (pe_callB call_isC (by rfl) n_isinstance (by decide +kernel) (pa_cons (pv 0) (pa_cons (pe_glob (v := .ref _) rfl g_BadDeclaration rfl) pa_nil)))) pe_str pe_str)) (pe_ifExp (pt_val (pe_callB call_isC (by rfl) n_isinstance (by decide +kernel) (pa_cons (pv 0) (pa_cons (pe_glob (v := .ref _) rfl g_BadText rfl) pa_nil)))) pe_str pe_str)))))), ?_⟩
    obtain ⟨b1, b2, b3, h1, h2, h3, rfl⟩ := hk.r
    refine w_val false (.and (a := true) (b := false) (fun Q' q => ⟨_, rfl, rfl, _, rfl, q⟩) fun _ => fun Q' q => w_val false (.or (a := false) (b := false) (fun Q' q => ⟨_, rfl, ⟨a, _, _, _, true, rfl, .own CE, hx, hk.e, ⟨_, rfl, q⟩⟩⟩) fun _ Q' q => ⟨_, rfl, ⟨a, _, _, _, true, rfl, .ty "ValueError", hx, hk.v, ⟨_, rfl, q⟩⟩⟩) q) (iteF ?_)
    refine ⟨_, rfl, ⟨a, _, _, _, b1, rfl, .own CM, hx, h1, ⟨_, rfl, ?_⟩⟩⟩
    have fin : ∀ x : Str, x.length ≤ 100 → x = (if b1 = true then "term " else "") → tRet (tOp (rAddU K) (tOp (rAddU K) (tVar 1) (tIf (tB (tCB (rIsC K) (tCons (tVar 0) (tCons (tC (.ref CD)) tNil)))) (tC (.str "declaration ")) (tC (.str "")))) (tIf (tB (tCB (rIsC K) (tCons (tVar 0) (tCons (tC (.ref CT)) tNil)))) (tC (.str "text ")) (tC (.str "")))) { nx := fun _ H' => Q .non H', rt := Q } [some (.ref a), some (.str x)] H := fun x hx1 ex => by
      rw [← ex] at k
      refine ⟨_, rfl, _, rfl, ⟨a, _, _, _, b2, rfl, .own CD, hx, h2, ⟨_, rfl, ?_⟩⟩⟩
      have l1 : ("declaration " : Str).length ≤ 100 := by decide +kernel
      have l0 : ("" : Str).length ≤ 100 := by decide +kernel
      have l2 : ("text " : Str).length ≤ 100 := by decide +kernel
      have add : ∀ y : Str, y.length ≤ 100 → y = (if b2 = true then "declaration " else "") → rAddU K (.str x) (.str y) H (fun z H' => tIf (tB (tCB (rIsC K) (tCons (tVar 0) (tCons (tC (.ref CT)) tNil)))) (tC (.str "text ")) (tC (.str "")) [some (.ref a), some (.str x)] H' fun u H'' => rAddU K z u H'' Q) := fun y hy ey => by
        rw [← ey] at k
        refine add_s (line_of (by omega)) ⟨_, rfl, ⟨a, _, _, _, b3, rfl, .own CT, hx, h3, ⟨_, rfl, ?_⟩⟩⟩
        have e9 : (x ++ y).length = x.length + y.length := by unfold Str.length; exact Array.size_append
        cases b3 with
        | true => exact iteT (add_s (line_of (by omega)) k)
        | false => exact iteF (add_s (line_of (by omega)) k)
      cases b2 with
      | true => exact iteT (add _ l1 rfl)
      | false => exact iteF (add _ l0 rfl)
    have l1 : ("term " : Str).length ≤ 100 := by decide +kernel
    have l0 : ("" : Str).length ≤ 100 := by decide +kernel
    cases b1 with
    | true => exact iteT (fin _ l1 rfl)
    | false => exact iteF (fin _ l0 rfl)
theorem Takes.len {X : Cx} {W : WX} (tk : Takes X W) : Takes X (fun cls d σ H => σ.length = X.N.length → W cls d σ H) := fun u s' x => by
  obtain ⟨a, B, sI, pins, σ1, H1, cls, d, e, J, nb, up, sky, na, os, ag, q⟩ := x
  exact tk u s' ⟨a, B, sI, pins, σ1, H1, cls, d, e, J, nb, up, sky, na, os, ag, q J.len⟩
/-- _law_caught of a lambda: the lambda's error kept as a value, None if it raises none -/
structure TTc (K : PySem.W.Frag) (CE : Addr) (tl : XK → Hp → VK → Prop) (H : Hp) (Q : VK) : Prop where
  h : tl (fun cls d H' => PySem.W.exmOne K cls (.ref CE) = some true ∧ ∀ a, H' a = none → Q (.ref a) (upd H' a (exT cls d a))) H fun _ H' => Q .non H'
theorem sc_law_caught : FnScope ["work", "caught", "error"] ["work"] (defScope s_law_caught) := ⟨rfl, rfl, rfl, by decide +kernel, rfl, by decide +kernel, by decide +kernel⟩
theorem caught_gives {X : Cx} {g CE : Addr} {cdg : Value} {q : Str} (hm : X.mg "TongueError" = some (.ref CE)) :
    GivesTo X ["work", "caught", "error"] "_law_caught" (defScope s_law_caught) g cdg (defBody s_law_caught) "work" q (TTc X.K CE) := by
  intro f c' s H Q tl act hc h
  have nd := sc_law_caught.nd
  have hgl : Gl (cxOf C8.CX0 X.prog X.w X.K X.mg X.base ["work", "caught", "error"] "_law_caught" (defScope s_law_caught) g cdg X.A X.stack s H C8.E0).nox "TongueError" := rfl
  refine ⟨_, pss_cons (ps_set (i := 1) nd rfl (Or.inl rfl) pe_non) (pss_cons (ps_keep (X := (cxOf C8.CX0 X.prog X.w X.K X.mg X.base ["work", "caught", "error"] "_law_caught" (defScope s_law_caught) g cdg X.A X.stack s H C8.E0).nox) (c := .ref CE) (i := 2) (j := 1)
      (tb := fun W D σ H => ∃ Ech : XK, (∀ cls d σ' H', Ech cls d H' → σ'.length = 3 → W cls d σ' H') ∧ σ[0]? = some (some (.ref f)) ∧ H c' = some (CodeO c' q) ∧ tl Ech H fun _ H' => D.nx σ H')
      rfl rfl rfl nd rfl rfl rfl rfl ⟨hgl, by decide, .inl hm⟩ L2.takes0 (by decide) (by decide) (fun _ => rfl) (fun W pn xe tk _ => ?_)) (pss_one (ps_ret (pv 1)))), ?_⟩
  · refine ⟨fun pins s' σ H' D I h' => ?_⟩
    obtain ⟨Ech, hW, h1, h2, h3⟩ := h'
    exact (pss_one (ps_expr (act _ pn xe Ech _ _ (RS.Takes.len tk) hW))).run pins s' σ H' D I ⟨h1, h2, h3⟩
  · have e : (fun (_ : V) (H' : Hp) => tRet (tVar 1) { nx := fun (_ : L2.St) H' => Q .non H', rt := Q } ([some (.ref f), some .non, none] : L2.St) H') = fun _ H' => Q .non H' := by
      funext _ H'
      exact propext ⟨fun ⟨v, e, q⟩ => by cases e; exact q, fun q => ⟨_, rfl, q⟩⟩
    have hh := h.h
    rw [← e] at hh
    refine ⟨fun cls d H' => PySem.W.exmOne X.K cls (.ref CE) = some true ∧ ∀ a, H' a = none → Q (.ref a) (upd H' a (exT cls d a)), fun cls d σ' H' ⟨e1, e2⟩ hl => ⟨true, e1, fun _ a na => ?_, fun z => by cases z⟩, rfl, hc, hh⟩
    match σ', hl with
    | [x, y, z], _ => exact ⟨_, rfl, e2 a na⟩
end
end RS

/-! LawA6: what the law asks of its parts. -/
namespace RS
open PySem PySem.Spec PyProof.Rows L2 TL LamX NdefX

theorem slT6 {K : PySem.W.Frag} {lw : Addr} {ws : List Str} {n : Nat} {H : Hp} {Q : VK} (h : H lw = some (.lst (ws.map V.str))) (k : ∀ p, H p = none → Q (.ref p) (upd H p (.lst ((ws.take n).map V.str)))) : rSlU K (.ref lw) none (some (n : Int)) H Q :=
  ⟨.inl ⟨lw, _, rfl, SqL.of h, fun p np => by have := k p np; rw [cutV_to, ← List.map_take]; exact this⟩⟩
theorem slF6 {K : PySem.W.Frag} {lw : Addr} {ws : List Str} {n : Nat} {H : Hp} {Q : VK} (h : H lw = some (.lst (ws.map V.str))) (k : ∀ p, H p = none → Q (.ref p) (upd H p (.lst ((ws.drop n).map V.str)))) : rSlU K (.ref lw) (some (n : Int)) none H Q :=
  ⟨.inl ⟨lw, _, rfl, SqL.of h, fun p np => by have := k p np; rw [cutV_from, ← List.map_drop]; exact this⟩⟩
/-- a row that near may hold -/
def nrR (z : Str) : Prop := okR z ∧ 10 ∉ cl z
theorem empty_ok : okR "" := by decide +kernel
theorem near_okRs {nl : List Str} (h : ∀ z ∈ nl, nrR z) (hl : nl.length ≤ 900) : okRs (nearRs (joinN nl)) ∧ (rowsOf (joinN nl)).length ≤ nl.length + 1 := by
  by_cases hn : nl = []
  · subst hn
    have e : joinN [] = "" := by decide +kernel
    rw [e]
    refine ⟨⟨Nat.zero_le _, fun z hz => by cases hz⟩, ?_⟩
    show (rowsOf "").length ≤ 1
    decide +kernel
  · have e : rowsOf (joinN nl) = nl := join_rows hn fun p hp => (h p hp).2
    rw [e]
    refine ⟨?_, by omega⟩
    unfold nearRs
    rw [e]
    split
    · exact ⟨Nat.zero_le _, fun z hz => by cases hz⟩
    · exact ⟨by omega, fun z hz => (h z hz).1⟩
theorem goodR.nr {z : Str} (h : goodR z) : nrR z := ⟨h.ok, h.nl⟩
def oddR : List Str := ["", "barred", "leaf", "leaf Set0", "split 0 0", "split 0 1", "type Set0", "type $0", "kind K 0 0", "maker M Set0", "function f 0 none open"]
instance (z : Str) : Decidable (nrR z) := inferInstanceAs (Decidable (_ ∧ _))
theorem oddR_ok {z : Str} (h : z ∈ oddR) : nrR z ∧ z.length ≤ 100 := by
  have : (oddR.all fun z => decide (nrR z ∧ z.length ≤ 100)) = true := by decide +kernel
  exact of_decide_eq_true (List.all_eq_true.mp this z h)
def lensL (ws : List Str) : Nat := (ws.map (·.length)).sum
theorem lens_app (a b : List Str) : lensL (a ++ b) = lensL a + lensL b := by unfold lensL; rw [List.map_append, List.sum_append]
theorem lens_cut (ws : List Str) (n : Nat) : lensL (ws.take n) + lensL (ws.drop n) = lensL ws := by rw [← lens_app, List.take_append_drop]
theorem lens_one (z : Str) : lensL [z] = z.length := by unfold lensL; simp
/-- near, one of three -/
theorem near_nr {ws : List Str} {n : Nat} {odd : Str} (hw : ∀ z ∈ ws, nrR z) (ho : odd ∈ oddR) {nl : List Str} (h : nl = ws.take n ++ [odd] ++ ws.drop n ∨ nl = ws.take n ++ ws.drop (n + 1) ∨ nl = ws.take n ++ [odd] ++ ws.drop (n + 1)) :
    (∀ z ∈ nl, nrR z) ∧ nl.length ≤ ws.length + 1 ∧ lensL nl ≤ lensL ws + 100 := by
  obtain ⟨o1, o2⟩ := oddR_ok ho
  have h1 : ∀ z ∈ ws.take n, nrR z := fun z hz => hw z (List.mem_of_mem_take hz)
  have h2 : ∀ k, ∀ z ∈ ws.drop k, nrR z := fun k z hz => hw z (List.mem_of_mem_drop hz)
  have c1 := lens_cut ws n
  have c2 : lensL (ws.drop (n + 1)) ≤ lensL (ws.drop n) := by
    have := lens_cut (ws.drop n) 1
    rw [List.drop_drop] at this
    omega
  rcases h with rfl | rfl | rfl
  · refine ⟨fun z hz => ?_, by simp; omega, by rw [lens_app, lens_app, lens_one]; omega⟩
    simp only [List.mem_append, List.mem_singleton] at hz
    rcases hz with (hz | hz) | hz
    · exact h1 z hz
    · rw [hz]; exact o1
    · exact h2 _ z hz
  · refine ⟨fun z hz => ?_, by simp; omega, by rw [lens_app]; omega⟩
    rcases List.mem_append.mp hz with hz | hz
    · exact h1 z hz
    · exact h2 _ z hz
  · refine ⟨fun z hz => ?_, by simp; omega, by rw [lens_app, lens_app, lens_one]; omega⟩
    simp only [List.mem_append, List.mem_singleton] at hz
    rcases hz with (hz | hz) | hz
    · exact h1 z hz
    · rw [hz]; exact o1
    · exact h2 _ z hz
/-! ### what the law asks of the drawn -/
theorem text_le {d : Dcl} (g : GD d) : d.text.length ≤ 82000 := Nat.le_trans (joinN_le d.rows) g.sum
theorem rows_split {d : Dcl} (g : GD d) : rowsOf d.text = d.rows := join_rows (fun q => by have := d.rows_pos; rw [q] at this; cases this) fun p hp => (g.gd p hp).nl
theorem rd1_ok {K : PySem.W.Frag} {CT : Addr} {d : Dcl} {H : Hp} {Q : VK} {E : XK} (g : GD d) (k : ∀ v H', Same H H' → Dt K H' v d.pd → Q v H') : spRd1 K CT [.str d.text] H Q E := by
  have h1 := text_le g
  have h2 := g.len
  have e := rows_split g
  refine ⟨⟨_, rfl, .inl ⟨_, rfl, by omega, ?_⟩⟩⟩
  rw [e]
  refine ⟨⟨by omega, fun z hz => (g.gd z hz).ok⟩, ?_⟩
  rw [rdOne_back g.wf]
  exact k
theorem rowsD_len : ∀ {ds : List Dcl}, (∀ d ∈ ds, GD d) → (rowsD ds).length ≤ 42 * ds.length ∧ sumL (rowsD ds) ≤ 82000 * ds.length ∧ ∀ z ∈ rowsD ds, goodR z
  | [], _ => ⟨Nat.le_refl _, Nat.le_refl _, fun z hz => by cases hz⟩
  | d :: ds, h => by
    obtain ⟨h1, h2, h3⟩ := rowsD_len fun e he => h e (List.mem_cons_of_mem _ he)
    have g := h d List.mem_cons_self
    have g1 := g.len
    have g2 := g.sum
    rw [rowsD_cons, List.length_append, sumL_app, List.length_cons]
    refine ⟨by omega, by omega, fun z hz => ?_⟩
    rcases List.mem_append.mp hz with hz | hz
    · exact g.gd z hz
    · exact h3 z hz
theorem nearRs_rows {ds : List Dcl} (h : ∀ d ∈ ds, GD d) : nearRs (joinN (rowsD ds)) = rowsD ds := by
  cases ds with
  | nil => decide +kernel
  | cons d ds =>
    obtain ⟨h1, h2, h3⟩ := rowsD_len h
    have hne : rowsD (d :: ds) ≠ [] := fun q => by
      have := d.rows_pos
      have : (rowsD (d :: ds)).length = 0 := by rw [q]; rfl
      rw [rowsD_cons, List.length_append] at this
      omega
    have e : rowsOf (joinN (rowsD (d :: ds))) = rowsD (d :: ds) := join_rows hne fun p hp => (h3 p hp).nl
    unfold nearRs
    rw [e]
    split
    · rename_i q
      exfalso
      rw [q] at e
      have e2 : rowsOf "" = ([""] : List Str) := by decide +kernel
      rw [e2] at e
      have e3 : (rowsD (d :: ds)).length = 1 := by rw [← e]; rfl
      have := d.rows_pos
      rw [rowsD_cons, List.length_append] at e3
      omega
    · rfl
theorem rdAll_ok6 {K : PySem.W.Frag} {CT : Addr} {ds : List Dcl} {H : Hp} {Q : VK} {E : XK} (hl : ds.length ≤ 3) (g : ∀ d ∈ ds, GD d) (k : ∀ v H', Same H H' → Dt K H' v (.tuple (ds.map Dcl.pd)) → Q v H') : spRdAll K CT [.str (joinN (rowsD ds))] H Q E := by
  obtain ⟨h1, h2, h3⟩ := rowsD_len g
  have h4 : 82000 * ds.length ≤ 82000 * 3 := Nat.mul_le_mul_left _ hl
  have h5 : (joinN (rowsD ds)).length ≤ sumL (rowsD ds) := joinN_le (rowsD ds)
  refine ⟨⟨_, rfl, .inl ⟨_, rfl, by omega, ?_⟩⟩⟩
  rw [nearRs_rows g]
  refine ⟨⟨by omega, fun z hz => (h3 z hz).ok⟩, ?_⟩
  show match RdAll (ds.flatMap Dcl.rows) 0 with | .ok ds => _ | .error k => _
  rw [RdAll_back fun d hd => (g d hd).wf]
  exact k
theorem asc_joinN {ws : List Str} (h : ∀ z ∈ ws, goodR z) : asc (joinN ws) := fun c hc => by
  rcases mem_join (sep := "\n") (d := 10) (by decide +kernel) ws c hc with q | ⟨z, hz, q⟩
  · omega
  · exact (h z hz).as c q
theorem dts_ok {K : PySem.W.Frag} {CD : Addr} {ds : List Dcl} {v : V} {H : Hp} {Q : VK} {E : XK} (dt : Dt K H v (.tuple (ds.map Dcl.pd))) (wf : ∀ d ∈ ds, d.wf) (hl : (rowsD ds).length ≤ 1000) (k : ∀ H', Same H H' → Q (.str (joinN (rowsD ds))) H') : spDTs K CD [v] H Q E :=
  ⟨⟨_, rfl, .inl ⟨ds, dt, wf, hl, fun H' e => by rw [texts_join]; exact k H' e⟩⟩⟩
theorem dt1_ok {K : PySem.W.Frag} {CD : Addr} {d : Dcl} {v : V} {H : Hp} {Q : VK} {E : XK} (dt : Dt K H v d.pd) (g : GD d) (k : ∀ H', Same H H' → Q (.str d.text) H') : spDT K CD [v] H Q E :=
  ⟨⟨_, rfl, .inl ⟨d, dt, g.wf, by have := g.len; omega, k⟩⟩⟩
theorem okd_tup {ds : List Dcl} (hl : ds.length ≤ 3) (g : ∀ d ∈ ds, GD d) : Okd (.tuple (ds.map Dcl.pd)) 21 200000 := by
  have a := OkdA.all (D := 20) (W := 66000) (ds.map Dcl.pd) fun d hd => by
    obtain ⟨e, he, rfl⟩ := List.mem_map.mp hd
    exact (g e he).ok
  refine a.tup.mono (Nat.le_refl _) ?_
  have : (ds.map Dcl.pd).length * (66000 + 1) ≤ 3 * (66000 + 1) := Nat.mul_le_mul_right _ (by rw [List.length_map]; exact hl)
  omega
/-! ### a def that a variable holds -/
def tAsk (sps : List (Addr × Sp)) (i : Nat) (E : XK) (t : TA) : TE := fun σ H Q => ∃ q ∈ sps, σ[i]? = some (some (.ref q.1)) ∧ t σ H fun vs H1 => q.2 vs H1 Q E
theorem pe_ask {X : Cx} {sps : List (Addr × Sp)} {i j k : Nat} {x : Str} {e : Expr} {es : List Expr} {t : TA} {E : XK} {p pos : Pos} (hF : ∀ q ∈ sps, ∃ fd ps, FnOk X.prog X.w X.K X.mg X.base (L2.CX X.prog X.w) j q.1 fd ps q.2 ∧ PySem.W.keepIn X.K (.ref q.1) = true ∧ Binds X.K fd ps [])
    (hr : Room k X.A) (hk : j ≤ k) (hx : Passes (L2.CX X.prog X.w) X E) (ha : PA X (e :: es) t)
    (hN : X.N[i]? = some x := by rfl) (hv : Vis X.env.scope x := by first | exact Or.inl rfl | exact Or.inr (Or.inl rfl) | exact Or.inr (Or.inr rfl)) (hdb : (x == ("__debug__" : Str)) = false := by decide) (hcd : (x == ("__classdict__" : Str)) = false := by decide)
    (he : starEach (e :: es) X.env = (false, eval e X.env) :: starEach es X.env := by rfl) (hpl : (backTo pos (starEach es X.env)).any (·.1) = false := by rfl) :
    PE X (.Call (.Name x p) (e :: es) [] pos) (tAsk sps i E t) := by
  refine ⟨fun pins s σ H Q I ⟨q, hq, hs, ht⟩ => ?_⟩
  obtain ⟨fd, ps, F, kp, b⟩ := hF q hq
  refine wpAny_Call_Name_kw (thn ((pe_var (pos := p) hN hv hdb hcd).run pins s σ H (fun v H1 => v = .ref q.1 ∧ H1 = H) I ⟨.ref q.1, hs, rfl, rfl⟩) fun u s1 ⟨v, H1, I1, r1, q1⟩ => ?_)
  obtain ⟨rfl, rfl⟩ := q1
  cases r1
  refine PySem.W.callWith_K (h₀ := X.base) I1.ok.mod.kin kp (thn (ha.run pos pins s1 σ _ _ I1 ht) fun us s2 ⟨vs, H2, I2, r, q2⟩ => ⟨I2.kIn, ?_⟩) he hpl
  exact run_fn (dvs := []) F (hr.mono hk) b .nil hx I2 r (by rw [List.append_nil]; exact q2)
end RS

/-! Law6: the law itself. -/
namespace RS
open PySem PySem.Spec PyProof.Rows L2 TL LamX NdefX

/-- a def as it stands behind the top, its code object told -/
structure FunD (K : PySem.W.Frag) (x qual : Str) (st : Stmt) (f : Addr) (fd : FuncData) (cdv : Value) : Prop where
  ex : ∃ (oc : Value) (od : Option Addr) (kV doc pm : Value) (an : Option Addr) (ct : Value) (osl : Array (Option Value)),
    fd = PySem.W.fnOf x qual (defArgs st) (defBody st) (defScope st) .none kV doc pm an cdv ct ∧ K.lookup f = some ⟨oc, od, .func fd, osl⟩ ∧ PySem.W.codeIn K cdv qual = true
  kp : PySem.W.keepIn K (.ref f) = true
theorem okGD {P : Program} {w : World} {K : PySem.W.Frag} {mg : Str → Option Value} {base : Heap} {x qual : Str} {st : Stmt} {f : Addr} {fd : FuncData} {cdv : Value} {N ps : List Str} {k : Nat} {sp : Sp} (F : FunD K x qual st f fd cdv) (S : FnScope N ps (defScope st)) (len : ∀ vs H Q E, sp vs H Q E → vs.length = ps.length)
    (body : ∀ (A : Around) (outer : List Env) (s : Shared) (H : Hp) (vs : List V) (Q : VK) (E : XK), AG (A.deeper (envOfC qual (defScope st) s.heap.objs.size f cdv)) → Room k (A.deeper (envOfC qual (defScope st) s.heap.objs.size f cdv)) → sp vs H Q E →
      ∃ t, PSs (cxOf CX0 P w K mg base N qual (defScope st) f cdv A outer s H E).nox (defBody st) t ∧ t { nx := fun _ H' => Q .non H', rt := Q } (start N vs) H) : FnG P w K mg base (k + 1) f fd ps sp := by
  obtain ⟨oc, od, kV, doc, pm, an, ct, osl, rfl, lk, hcd⟩ := F.ex
  refine ⟨len, fun A outer s H args us vs Q E hg hr e0 hb r q => ?_⟩
  have hlen := len _ _ _ _ q
  have keep : ∀ b o, base.get? b = some o → s.heap.get? b = some o := fun b o e => (e0.bs b o e).1
  have kin : K.In s.heap := e0.mod.kin.keeps keep
  have kinds : ∀ y ∈ ps.zip us, (defScope st).names.lookup y.1 = some .local ∨ ((defScope st).names.lookup y.1 = some .cell ∧ ((cellsFrom (s.heap.objs.size + 1) (defScope st).names []).lookup y.1).isSome = true) := by
    rintro ⟨n, v⟩ hy
    exact (S.par n (List.of_mem_zip hy).1).imp id fun z => ⟨z, PySem.W.cellsFrom_some _ _ _ (.inl z)⟩
  refine codeAny_call_function hr.depth (kin _ _ lk) rfl S.co S.gen rfl (PySem.W.codeRec_of kin hcd) (hb _ _ _ _ (wpAny_newFunctionEnv_cells S.kind kinds fun env he s1 ic => ?_))
  subst he
  obtain ⟨t, ht, hq⟩ := body A outer s H vs Q E hg (hr.deeper _) q
  refine ⟨(e0.mod.nolimit.keeps keep).keeps ic.toInCall.keep, codeAny_func (wpAny_mono (ht.nox.run [] s1 _ H _ (inv_start S hr.hd e0 hlen r ic) hq) (fun fl s' z => ?_) fun e s' z => z)⟩
  cases fl with
  | ret u => obtain ⟨v, σ', H', J, rv, q'⟩ := z; exact ⟨v, H', J.os, J.bare, J.base, J.hok, rv, q'⟩
  | next => obtain ⟨σ', H', J, q'⟩ := z; exact ⟨.non, H', J.os, J.bare, J.base, J.hok, rfl, q'⟩
  | brk => exact (z.elim fun _ z => z.elim fun _ z => z.2.elim)
  | cont => exact (z.elim fun _ z => z.elim fun _ z => z.2.elim)
theorem Tabs.ch {T : List (Addr × Str)} {d g c : Addr} {H H' : Hp} {k : Nat} (t : Tabs T H) (C : Ch d g H H') (S : Stt H d g c k) : Tabs T H' := fun p hp => by
  obtain ⟨kv, hd⟩ := S.d
  obtain ⟨xs, hg⟩ := S.g
  obtain ⟨ps, h1, h2, h3⟩ := t p hp
  have stay : ∀ b o, H b = some o → (∀ kv, o ≠ .dK kv) → (∀ xs, o ≠ .lst xs) → H' b = some o := fun b o e n1 n2 => C b o (fun z => by rw [z, hd] at e; exact n1 _ (Option.some.inj e).symm) (fun z => by rw [z, hg] at e; exact n2 _ (Option.some.inj e).symm) e
  refine ⟨ps, stay _ _ h1 (fun _ z => by cases z) (fun _ z => by cases z), h2, fun pos cv hc => ?_⟩
  obtain ⟨c0, e1, e2⟩ := h3 pos cv hc
  exact ⟨c0, e1, stay _ _ e2 (fun _ z => by unfold CodeO at z; cases z) (fun _ z => by unfold CodeO at z; cases z)⟩
theorem Stt.xt {d g c : Addr} {H H' : Hp} {k : Nat} (S : Stt H d g c k) (x : ExtN H H') : Stt H' d g c k := by
  obtain ⟨gs, cs, l, t, h1, h2, h3, h4, h5⟩ := S.ex
  exact ⟨S.ne, gs, cs, l, t, x _ _ h1 (fun _ z => by cases z), x _ _ h2 (fun _ z => by cases z), x _ _ h3 (fun _ z => by cases z), h4, h5⟩
theorem Stt.fresh4 {H : Hp} {d g c p : Addr} {T : Nat} (S : Stt H d g c T) (h : H p = none) : p ≠ d ∧ p ≠ g ∧ p ≠ c := by
  obtain ⟨_, e1⟩ := S.d
  obtain ⟨_, e2⟩ := S.g
  obtain ⟨gs, cs, l, t, h1, h2, h3, h4, h5⟩ := S.ex
  exact ⟨(ne_of_none e1 h).symm, (ne_of_none e2 h).symm, (ne_of_none h3 h).symm⟩
theorem xtk {K : PySem.W.Frag} {H H' : Hp} (e : ExtN H H') : TK K H H' := TK.of (fun a xs h => e _ _ h fun _ z => by cases z) fun a o u h => e _ _ h fun _ z => by cases z
def Fr6 (a d : Addr) (σ : L2.St) : Prop := ∃ v2 v3 v4 v5 v6 v7 v8 v9 v10 v11 v12 v13 v14 v15 v16 v17 : Option V, σ = [some (.ref a), some (.ref d), v2, v3, v4, v5, v6, v7, v8, v9, v10, v11, v12, v13, v14, v15, v16, v17]
theorem fr6_mk {a d : Addr} {v2 v3 v4 v5 v6 v7 v8 v9 v10 v11 v12 v13 v14 v15 v16 v17 : Option V} : Fr6 a d [some (.ref a), some (.ref d), v2, v3, v4, v5, v6, v7, v8, v9, v10, v11, v12, v13, v14, v15, v16, v17] := ⟨_, _, _, _, _, _, _, _, _, _, _, _, _, _, _, _, rfl⟩
def F6 (a d tp lr : Addr) (tx : Str) (σ : L2.St) : Prop := ∃ v2 v5 v7 v8 v9 v10 v11 v12 v13 v14 v15 v16 v17 : Option V, σ = [some (.ref a), some (.ref d), v2, some (.ref tp), some (.ref lr), v5, some (.str tx), v7, v8, v9, v10, v11, v12, v13, v14, v15, v16, v17]
theorem f6_mk {a d tp lr : Addr} {tx : Str} {v2 v5 v7 v8 v9 v10 v11 v12 v13 v14 v15 v16 v17 : Option V} : F6 a d tp lr tx [some (.ref a), some (.ref d), v2, some (.ref tp), some (.ref lr), v5, some (.str tx), v7, v8, v9, v10, v11, v12, v13, v14, v15, v16, v17] := ⟨_, _, _, _, _, _, _, _, _, _, _, _, _, rfl⟩
def F3 (a d tp lr : Addr) (σ : L2.St) : Prop := ∃ v2 v5 v6 v7 v8 v9 v10 v11 v12 v13 v14 v15 v16 v17 : Option V, σ = [some (.ref a), some (.ref d), v2, some (.ref tp), some (.ref lr), v5, v6, v7, v8, v9, v10, v11, v12, v13, v14, v15, v16, v17]
theorem f3_mk {a d tp lr : Addr} {v2 v5 v6 v7 v8 v9 v10 v11 v12 v13 v14 v15 v16 v17 : Option V} : F3 a d tp lr [some (.ref a), some (.ref d), v2, some (.ref tp), some (.ref lr), v5, v6, v7, v8, v9, v10, v11, v12, v13, v14, v15, v16, v17] := ⟨_, _, _, _, _, _, _, _, _, _, _, _, _, _, rfl⟩
def Fb (a d : Addr) (oy : V) (σ : L2.St) : Prop := ∃ v2 v3 v4 v5 v6 v7 v8 v10 v11 v12 v13 v14 v15 v16 v17 : Option V, σ = [some (.ref a), some (.ref d), v2, v3, v4, v5, v6, v7, v8, some oy, v10, v11, v12, v13, v14, v15, v16, v17]
theorem fb_mk {a d : Addr} {oy : V} {v2 v3 v4 v5 v6 v7 v8 v10 v11 v12 v13 v14 v15 v16 v17 : Option V} : Fb a d oy [some (.ref a), some (.ref d), v2, v3, v4, v5, v6, v7, v8, some oy, v10, v11, v12, v13, v14, v15, v16, v17] := ⟨_, _, _, _, _, _, _, _, _, _, _, _, _, _, _, rfl⟩
def toldD (p : Str × Nat) : PyData := .tuple [.str p.1, .int (p.2 : Nat)]
def lamQ : Str := ("law" : Str) ++ ".<locals>." ++ "<lambda>"
/-- what a turn keeps -/
structure Lp (K : PySem.W.Frag) (Pt d g c0 lr tp : Addr) (ds : List Dcl) (H : Hp) (Y : Nat) : Prop where
  S : Stt H d g c0 Y
  T : Tabs [(Pt, lamQ)] H
  dt : Dt K H (.ref tp) (.tuple (ds.map Dcl.pd))
  w : H lr = some (.lst ((rowsD ds).map V.str))
  nd : lr ≠ d
  ng : lr ≠ g
theorem Lp.same {K : PySem.W.Frag} {Pt d g c0 lr tp : Addr} {ds : List Dcl} {H H' : Hp} {Y : Nat} (L : Lp K Pt d g c0 lr tp ds H Y) (e : Same H H') : Lp K Pt d g c0 lr tp ds H' Y := ⟨L.S.keep e, L.T.ext e, L.dt.same e, e _ _ L.w, L.nd, L.ng⟩
theorem Lp.new {K : PySem.W.Frag} {Pt d g c0 lr tp : Addr} {ds : List Dcl} {H : Hp} {Y : Nat} {p : Addr} {o : HO} (L : Lp K Pt d g c0 lr tp ds H Y) (h : H p = none) : Lp K Pt d g c0 lr tp ds (upd H p o) Y := L.same (same_new h)
theorem Lp.ch {K : PySem.W.Frag} {Pt d g c0 lr tp : Addr} {ds : List Dcl} {H H' : Hp} {Y Y' : Nat} (L : Lp K Pt d g c0 lr tp ds H Y) (C : Ch d g H H') (S : Stt H' d g c0 Y') : Lp K Pt d g c0 lr tp ds H' Y' := ⟨S, RS.Tabs.ch L.T C L.S, Dt.keep (C.tk L.S) _ L.dt, C _ _ L.nd L.ng L.w, L.nd, L.ng⟩
theorem Lp.xt {K : PySem.W.Frag} {Pt d g c0 lr tp : Addr} {ds : List Dcl} {H H' : Hp} {Y : Nat} (L : Lp K Pt d g c0 lr tp ds H Y) (x : ExtN H H') (T : Tabs [(Pt, lamQ)] H') : Lp K Pt d g c0 lr tp ds H' Y := ⟨L.S.xt x, T, Dt.keep (xtk x) _ L.dt, x _ _ L.w (fun _ z => by cases z), L.nd, L.ng⟩
theorem Lp.mono {K : PySem.W.Frag} {Pt d g c0 lr tp : Addr} {ds : List Dcl} {H : Hp} {Y Y' : Nat} (L : Lp K Pt d g c0 lr tp ds H Y) (h : Y ≤ Y') : Lp K Pt d g c0 lr tp ds H Y' := ⟨L.S.mono h, L.T, L.dt, L.w, L.nd, L.ng⟩
structure rLaw6 (K : PySem.W.Frag) (Pt : Addr) (vs : List V) (H : Hp) (Q : VK) : Prop where
  ex : ∃ (a : Addr) (ns : List Int), vs = [.ref a] ∧ SqL K H a (ns.map V.int) ∧ ns.length ≤ 63 ∧ Tabs [(Pt, lamQ)] H ∧ ∀ H', Q (.bl true) H'
def spLaw6 (K : PySem.W.Frag) (Pt : Addr) : Sp := fun vs H Q _ => rLaw6 K Pt vs H Q
section
variable {P : Program} {w : World} {K : PySem.W.Frag} {mg : Str → Option Value} {base : Heap}
theorem sc_law : FnScope ["script", "state", "turn", "some", "rows", "one", "text", "lap", "told", "bad", "ask", "none", "at", "odd", "near", "error", "due", "spot"] ["script"] (defScope s_law) := ⟨rfl, rfl, rfl, by decide +kernel, rfl, by decide +kernel, by decide +kernel⟩
theorem ok_law {f c Pt fc CE CM CD CT fr1 fra : Addr} {fd fdc : FuncData} (F : FunD K "law" "law" s_law f fd (.ref c)) (TB : TabB base mg c Pt)
    (FC : Fun K "_law_caught" "_law_caught" s_law_caught fc fdc) (m_law_caught : mg "_law_caught" = some (.ref fc)) (b_law_caught : Binds K fdc ["work"] [])
    (n_len : mg "len" = none) (n_min : mg "min" = none) (n_range : mg "range" = none) (n_repr : mg "repr" = none) (n_tuple : mg "tuple" = none) (g_TongueError : mg "TongueError" = some (.ref CE)) (g_read_declared : mg "read_declared" = some (.ref fr1)) (g_read_declarations : mg "read_declarations" = some (.ref fra))
    (kD : KindOf K CE CM CD CT CD "declaration ") (kT : KindOf K CE CM CD CT CT "text ") (xD : ExK K CD) (xT : ExK K CT) (eD : PySem.W.exmOne K (.ref CD) (.ref CE) = some true) (eT : PySem.W.exmOne K (.ref CT) (.ref CE) = some true) (noT : PySem.W.findIn K (.ref CT) "at" = some none)
    (D_law_begun : Df P w K mg base "_law_begun" 1 ["script"] (spBegun K)) (D_law_draw : Df P w K mg base "_law_draw" 2 ["state", "size_here"] spDraw) (D_law_pick : Df P w K mg base "_law_pick" 3 ["state", "several"] spPick)
    (D_law_rt_declaration : Df P w K mg base "_law_rt_declaration" 12 ["state"] (spRtD K)) (D_law_k06_rows : Df P w K mg base "_law_k06_rows" 72 ["one"] (spLR K)) (D_law_rk_kind : Df P w K mg base "_law_rk_kind" 1 ["error"] (spRK K CE CM CD CT))
    (Ddeclared_text : DfX P w K mg base "declared_text" 205 ["declaration"] (spDT K CD)) (Dkdeclared_text : DfKX P w K mg base "declared_text" 205 ["declaration"] (spDT K CD) ["declaration"] [0])
    (Dread_declared : DfX P w K mg base "read_declared" 11 ["text"] (spRd1 K CT)) (Dkread_declared : DfKX P w K mg base "read_declared" 11 ["text"] (spRd1 K CT) ["text"] [0])
    (Ddeclarations_text : DfX P w K mg base "declarations_text" 206 ["declarations"] (spDTs K CD)) (Dkdeclarations_text : DfKX P w K mg base "declarations_text" 206 ["declarations"] (spDTs K CD) ["declarations"] [0])
    (Dread_declarations : DfX P w K mg base "read_declarations" 11 ["text"] (spRdAll K CT)) (Dkread_declarations : DfKX P w K mg base "read_declarations" 11 ["text"] (spRdAll K CT) ["text"] [0]) :
    FnG P w K mg base 209 f fd ["script"] (spLaw6 K Pt) := by
  obtain ⟨oc_, od_, kV_, doc_, pm_, an_, cdv_, ct_, osl_, rfl, l_law_caught, h_law_caught⟩ := FC.ex
  have k_law_caught := FC.kp
  obtain ⟨sps, hsps⟩ : ∃ sps : List (Addr × Sp), sps = [(fr1, spRd1 K CT), (fra, spRdAll K CT)] := ⟨_, rfl⟩
  have hAsk : ∀ q ∈ sps, ∃ fd ps, FnOk P w K mg base (L2.CX P w) 11 q.1 fd ps q.2 ∧ PySem.W.keepIn K (.ref q.1) = true ∧ Binds K fd ps [] := by
    intro q hq
    rw [hsps] at hq
    simp only [List.mem_cons, List.not_mem_nil, or_false] at hq
    rcases hq with rfl | rfl
    · obtain ⟨f1, fd1, h1, h2, h3, h4⟩ := Dread_declared.ex
      rw [g_read_declared] at h2
      cases h2
      exact ⟨fd1, _, h1, h3, h4⟩
    · obtain ⟨f1, fd1, h1, h2, h3, h4⟩ := Dread_declarations.ex
      rw [g_read_declarations] at h2
      cases h2
      exact ⟨fd1, _, h1, h3, h4⟩
  refine okGD F sc_law (fun vs H Q E h => ?_) (fun A outer s H vs Q E hg hr h => ?_)
  · obtain ⟨a, ns, rfl, _⟩ := h.ex; rfl
  · obtain ⟨a, ns, rfl, hS, hl, hT, k⟩ := h.ex
    clear h
    have nd := sc_law.nd
    refine ⟨_, (pss_cons (ps_set (i := 1) nd rfl (Or.inr rfl) (pe_df D_law_begun hr (by omega) (pa_cons (pv 0) pa_nil)))
      (pss_cons (ps_for PassesOwn.never rfl (pi_range1 rfl n_range (pa_cons (pe_op uAdd pe_int (pe_callB (call_min2 rfl) (by rfl) n_min (by decide +kernel) (pa_cons (pe_callB uLen (by rfl) n_len (by decide +kernel) (pa_cons (pv 0) pa_nil)) (pa_cons pe_int pa_nil)))) pa_nil)) (pg_name (i := 2) nd rfl (Or.inl rfl))
        (pss_cons (ps_set (i := 3) nd rfl (Or.inl rfl) (pe_callTy call_tuple_of (by rfl) n_tuple (by decide +kernel) (pa_cons (pe_lc (own := [("spot", 17)]) (g := gName 17) rfl nd (pi_range1 rfl n_range (pa_cons (pe_df D_law_draw hr (by omega) (pa_cons (pv 1) (pa_cons pe_int pa_nil))) pa_nil)) (blkOk_by (own := [("spot", 17)]) (N := ["script", "state", "turn", "some", "rows", "one", "text", "lap", "told", "bad", "ask", "none", "at", "odd", "near", "error", "due", "spot"]) (sc := defScope s_law) (by decide +kernel)) (fun _ _ _ _ _ => (pg_name (i := 17) nd rfl (Or.inl rfl))) (fun _ _ _ _ _ => pts_nil) (fun _ _ _ _ _ => (pe_df D_law_rt_declaration hr (by omega) (pa_cons (pv 1) pa_nil)))) pa_nil)))
        (pss_cons (ps_set (i := 4) nd rfl (Or.inl rfl) (pe_lstN pa_nil))
        (pss_cons (ps_for PassesOwn.never rfl (pi_seq (pv 3)) (pg_name (i := 5) nd rfl (Or.inl rfl))
          (pss_cons (ps_set (i := 8) nd rfl (Or.inl rfl) (pe_df D_law_k06_rows hr (by omega) (pa_cons (pv 5) pa_nil)))
          (pss_cons (ps_set (i := 4) nd rfl (Or.inl rfl) (pe_op uAdd (pv 4) (pv 8)))
          (pss_cons (ps_set (i := 6) nd rfl (Or.inl rfl) (pe_join pe_str (pv 8)))
          (pss_cons (ps_if (pt_cmpR (uNe hr.units) (pe_callB (uRepr hg hr.units) (by rfl) n_repr (by decide +kernel) (pa_cons (pe_lstN (pa_cons (pe_dfX Ddeclared_text hr (by omega) passX0 (pa_cons (pv 5) pa_nil)) (pa_cons (pe_dfKX Dkdeclared_text hr (by omega) passX0 (pk_cons (pv 5) pk_nil)) pa_nil))) pa_nil)) (pe_callB (uRepr hg hr.units) (by rfl) n_repr (by decide +kernel) (pa_cons (pe_lstN (pa_cons (pv 6) (pa_cons (pv 6) pa_nil))) pa_nil)) (nomark _))
            (pss_one (ps_ret pe_bl))
            pss_nil)
          (pss_one (ps_if (pt_cmpR (uNe hr.units) (pe_callB (uRepr hg hr.units) (by rfl) n_repr (by decide +kernel) (pa_cons (pe_lstN (pa_cons (pe_dfX Dread_declared hr (by omega) passX0 (pa_cons (pv 6) pa_nil)) (pa_cons (pe_dfKX Dkread_declared hr (by omega) passX0 (pk_cons (pv 6) pk_nil)) pa_nil))) pa_nil)) (pe_callB (uRepr hg hr.units) (by rfl) n_repr (by decide +kernel) (pa_cons (pe_lstN (pa_cons (pv 5) (pa_cons (pv 5) pa_nil))) pa_nil)) (nomark _))
            (pss_one (ps_ret pe_bl))
            pss_nil)))))))
        (pss_cons (ps_set (i := 6) nd rfl (Or.inl rfl) (pe_join pe_str (pv 4)))
        (pss_cons (ps_if (pt_cmpR (uNe hr.units) (pe_callB (uRepr hg hr.units) (by rfl) n_repr (by decide +kernel) (pa_cons (pe_lstN (pa_cons (pe_dfX Ddeclarations_text hr (by omega) passX0 (pa_cons (pv 3) pa_nil)) (pa_cons (pe_dfKX Dkdeclarations_text hr (by omega) passX0 (pk_cons (pv 3) pk_nil)) pa_nil))) pa_nil)) (pe_callB (uRepr hg hr.units) (by rfl) n_repr (by decide +kernel) (pa_cons (pe_lstN (pa_cons (pv 6) (pa_cons (pv 6) pa_nil))) pa_nil)) (nomark _))
          (pss_one (ps_ret pe_bl))
          pss_nil)
        (pss_cons (ps_if (pt_cmpR (uNe hr.units) (pe_callB (uRepr hg hr.units) (by rfl) n_repr (by decide +kernel) (pa_cons (pe_lstN (pa_cons (pe_dfX Dread_declarations hr (by omega) passX0 (pa_cons (pv 6) pa_nil)) (pa_cons (pe_dfKX Dkread_declarations hr (by omega) passX0 (pk_cons (pv 6) pk_nil)) pa_nil))) pa_nil)) (pe_callB (uRepr hg hr.units) (by rfl) n_repr (by decide +kernel) (pa_cons (pe_lstN (pa_cons (pv 3) (pa_cons (pv 3) pa_nil))) pa_nil)) (nomark _))
          (pss_one (ps_ret pe_bl))
          pss_nil)
        (pss_cons (ps_for PassesOwn.never rfl (pi_range1 rfl n_range (pa_cons pe_int pa_nil)) (pg_name (i := 7) nd rfl (Or.inl rfl))
          (pss_cons (ps_set (i := 12) nd rfl (Or.inl rfl) (pe_df D_law_draw hr (by omega) (pa_cons (pv 1) (pa_cons (pe_op uAdd (pe_callB uLen (by rfl) n_len (by decide +kernel) (pa_cons (pv 4) pa_nil)) pe_int) pa_nil))))
          (pss_cons (ps_set (i := 13) nd rfl (Or.inl rfl) (pe_df D_law_pick hr (by omega) (pa_cons (pv 1) (pa_cons (pe_lstN (pa_cons pe_str (pa_cons pe_str (pa_cons pe_str (pa_cons pe_str (pa_cons pe_str (pa_cons pe_str (pa_cons pe_str (pa_cons pe_str (pa_cons pe_str (pa_cons pe_str (pa_cons pe_str pa_nil)))))))))))) pa_nil))))
          (pss_cons (ps_set (i := 14) nd rfl (Or.inr rfl) (pe_join pe_str (pe_df D_law_pick hr (by omega) (pa_cons (pv 1) (pa_cons (pe_lstN (pa_cons (pe_op uAdd (pe_op uAdd (pe_slice uSl (pv 4) po_none (po_some (pv 12))) (pe_lstN (pa_cons (pv 13) pa_nil))) (pe_slice uSl (pv 4) (po_some (pv 12)) po_none)) (pa_cons (pe_op uAdd (pe_slice uSl (pv 4) po_none (po_some (pv 12))) (pe_slice uSl (pv 4) (po_some (pe_op uAdd (pv 12) pe_int)) po_none)) (pa_cons (pe_op uAdd (pe_op uAdd (pe_slice uSl (pv 4) po_none (po_some (pv 12))) (pe_lstN (pa_cons (pv 13) pa_nil))) (pe_slice uSl (pv 4) (po_some (pe_op uAdd (pv 12) pe_int)) po_none)) pa_nil)))) pa_nil)))))
          (pss_cons (ps_set (i := 15) nd rfl (Or.inl rfl) (pe_lamcall (k := 206) (t := fun E => tDfX (spRdAll K CT) E (tCons (tVar 14) tNil)) rfl m_law_caught k_law_caught l_law_caught h_law_caught b_law_caught sc_law_caught rfl (Or.inl rfl) (caught_gives g_TongueError) TB rfl (List.mem_singleton.mpr rfl) (fun p hp _ => by rw [List.mem_singleton.mp hp]) (hr.mono (by decide)) (lamS_by (sc := defScope s_law) (by decide +kernel)) rfl (fun _ _ _ _ _ => rfl) (fun A outer s H E f c' hr2 => pe_dfX Dread_declarations hr2 (by decide) (passes_call (takes_of rfl rfl rfl rfl) fun _ _ _ _ h => h) (pa_cons (pv 14) pa_nil))))
          (pss_one (ps_if (pt_cmpR op_isN (pv 15) pe_non (nomark _))
            (pss_one (ps_if (pt_cmpR (uNe hr.units) (pe_dfX Ddeclarations_text hr (by omega) passX0 (pa_cons (pe_dfX Dread_declarations hr (by omega) passX0 (pa_cons (pv 14) pa_nil)) pa_nil)) (pv 14) (nomark _))
              (pss_one (ps_ret pe_bl))
              pss_nil))
            (pss_one (ps_if (pt_w (PW.pt (pw_or (pt_cmpR (uNe hr.units) (pe_df D_law_rk_kind hr (by omega) (pa_cons (pv 15) pa_nil)) pe_str (nomark _)) (pw_or1 (pt_not (pt_chain op_le op_le pe_int (pe_fdC (pv 15)) (pe_callB uLen (by rfl) n_len (by decide +kernel) (pa_cons (pe_split (pv 14) pe_str) pa_nil))))))))
              (pss_one (ps_ret pe_bl))
              pss_nil)))))))))
        (pss_cons (ps_set (i := 8) nd rfl (Or.inl rfl) (pe_lstN (pa_cons (pe_tupN (pa_cons pe_str (pa_cons pe_int pa_nil))) (pa_cons (pe_tupN (pa_cons pe_str (pa_cons pe_int pa_nil))) (pa_cons (pe_tupN (pa_cons pe_str (pa_cons pe_int pa_nil))) (pa_cons (pe_tupN (pa_cons pe_str (pa_cons pe_int pa_nil))) pa_nil))))))
        (pss_cons (ps_set (i := 8) nd rfl (Or.inl rfl) (pe_op uAdd (pv 8) (pe_lstN (pa_cons (pe_tupN (pa_cons pe_str (pa_cons pe_int pa_nil))) (pa_cons (pe_tupN (pa_cons pe_str (pa_cons pe_int pa_nil))) (pa_cons (pe_tupN (pa_cons pe_str (pa_cons pe_int pa_nil))) pa_nil))))))
        (pss_cons (ps_set (i := 8) nd rfl (Or.inl rfl) (pe_op uAdd (pv 8) (pe_lstN (pa_cons (pe_tupN (pa_cons pe_str (pa_cons pe_int pa_nil))) (pa_cons (pe_tupN (pa_cons pe_str (pa_cons pe_int pa_nil))) (pa_cons (pe_tupN (pa_cons pe_str (pa_cons pe_int pa_nil))) pa_nil))))))
        (pss_cons (ps_for PassesOwn.never rfl (pi_seq (pv 8)) (pg_tup rfl (pgs_cons (pg_name (i := 14) nd rfl (Or.inr rfl)) (pgs_cons (pg_name (i := 16) nd rfl (Or.inl rfl)) pgs_nil)))
          (pss_cons (ps_set (i := 15) nd rfl (Or.inl rfl) (pe_lamcall (k := 206) (t := fun E => tDfX (spRd1 K CT) E (tCons (tVar 14) tNil)) rfl m_law_caught k_law_caught l_law_caught h_law_caught b_law_caught sc_law_caught rfl (Or.inl rfl) (caught_gives g_TongueError) TB rfl (List.mem_singleton.mpr rfl) (fun p hp _ => by rw [List.mem_singleton.mp hp]) (hr.mono (by decide)) (lamS_by (sc := defScope s_law) (by decide +kernel)) rfl (fun _ _ _ _ _ => rfl) (fun A outer s H E f c' hr2 => pe_dfX Dread_declared hr2 (by decide) (passes_call (takes_of rfl rfl rfl rfl) fun _ _ _ _ h => h) (pa_cons (pv 14) pa_nil))))
          (pss_one (ps_if (pt_w (PW.pt (pw_or (pt_cmpR (uNe hr.units) (pe_df D_law_rk_kind hr (by omega) (pa_cons (pv 15) pa_nil)) pe_str (nomark _)) (pw_or1 (pt_cmpR (uNe hr.units) (pe_callB SkE.call_repr_int (by rfl) n_repr (by decide +kernel) (pa_cons (pe_fdC (pv 15)) pa_nil)) (pe_callB SkE.call_repr_int (by rfl) n_repr (by decide +kernel) (pa_cons (pv 16) pa_nil)) (nomark _))))))
            (pss_one (ps_ret pe_bl))
            pss_nil))))
        (pss_cons (ps_set (i := 9) nd rfl (Or.inr rfl) (pe_df D_law_pick hr (by omega) (pa_cons (pv 1) (pa_cons (pe_lstN (pa_cons pe_non (pa_cons pe_int (pa_cons (pe_lstN (pa_cons pe_str pa_nil)) (pa_cons pe_bl pa_nil))))) pa_nil))))
        (pss_cons (ps_for PassesOwn.never rfl (pi_seq (pe_lstN (pa_cons (pe_glob (v := .ref _) rfl g_read_declared rfl) (pa_cons (pe_glob (v := .ref _) rfl g_read_declarations rfl) pa_nil)))) (pg_name (i := 10) nd rfl (Or.inr rfl))
          (pss_cons (ps_set (i := 15) nd rfl (Or.inl rfl) (pe_lamcall (k := 206) (t := fun E => tAsk sps 10 E (tCons (tVar 9) tNil)) rfl m_law_caught k_law_caught l_law_caught h_law_caught b_law_caught sc_law_caught rfl (Or.inl rfl) (caught_gives g_TongueError) TB rfl (List.mem_singleton.mpr rfl) (fun p hp _ => by rw [List.mem_singleton.mp hp]) (hr.mono (by decide)) (lamS_by (sc := defScope s_law) (by decide +kernel)) rfl (fun _ _ _ _ _ => rfl) (fun A outer s H E f c' hr2 => pe_ask hAsk hr2 (by decide) (passes_call (takes_of rfl rfl rfl rfl) fun _ _ _ _ h => h) (pa_cons (pv 9) pa_nil))))
          (pss_one (ps_if (pt_w (PW.pt (pw_or (pt_cmpR (uNe hr.units) (pe_df D_law_rk_kind hr (by omega) (pa_cons (pv 15) pa_nil)) pe_str (nomark _)) (pw_or1 (pt_cmpR (uNe hr.units) (pe_callB SkE.call_repr_int (by rfl) n_repr (by decide +kernel) (pa_cons (pe_fdC (pv 15)) pa_nil)) pe_str (nomark _))))))
            (pss_one (ps_ret pe_bl))
            pss_nil))))
        (pss_cons (ps_set (i := 11) nd rfl (Or.inr rfl) (pe_df D_law_pick hr (by omega) (pa_cons (pv 1) (pa_cons (pe_lstN (pa_cons pe_non (pa_cons pe_int (pa_cons pe_str (pa_cons (pe_tupN (pa_cons pe_str (pa_cons pe_str pa_nil))) (pa_cons (pe_tupN (pa_cons pe_str pa_nil)) pa_nil)))))) pa_nil))))
        (pss_cons (ps_if (pt_cmpR (uNe hr.units) (pe_df D_law_rk_kind hr (by omega) (pa_cons (pe_lamcall (k := 206) (t := fun E => tDfX (spDT K CD) E (tCons (tVar 11) tNil)) rfl m_law_caught k_law_caught l_law_caught h_law_caught b_law_caught sc_law_caught rfl (Or.inl rfl) (caught_gives g_TongueError) TB rfl (List.mem_singleton.mpr rfl) (fun p hp _ => by rw [List.mem_singleton.mp hp]) (hr.mono (by decide)) (lamS_by (sc := defScope s_law) (by decide +kernel)) rfl (fun _ _ _ _ _ => rfl) (fun A outer s H E f c' hr2 => pe_dfX Ddeclared_text hr2 (by decide) (passes_call (takes_of rfl rfl rfl rfl) fun _ _ _ _ h => h) (pa_cons (pv 11) pa_nil))) pa_nil)) pe_str (nomark _))
          (pss_one (ps_ret pe_bl))
          pss_nil)
        (pss_one (ps_if (pt_cmpR (uNe hr.units) (pe_df D_law_rk_kind hr (by omega) (pa_cons (pe_lamcall (k := 206) (t := fun E => tDfX (spDTs K CD) E (tCons (tVar 11) tNil)) rfl m_law_caught k_law_caught l_law_caught h_law_caught b_law_caught sc_law_caught rfl (Or.inl rfl) (caught_gives g_TongueError) TB rfl (List.mem_singleton.mpr rfl) (fun p hp _ => by rw [List.mem_singleton.mp hp]) (hr.mono (by decide)) (lamS_by (sc := defScope s_law) (by decide +kernel)) rfl (fun _ _ _ _ _ => rfl) (fun A outer s H E f c' hr2 => pe_dfX Ddeclarations_text hr2 (by decide) (passes_call (takes_of rfl rfl rfl rfl) fun _ _ _ _ h => h) (pa_cons (pv 11) pa_nil))) pa_nil)) pe_str (nomark _))
          (pss_one (ps_ret pe_bl))
          pss_nil))))))))))))))))))
      (pss_one (ps_ret (pe_cmpR (op_eqT0 hr.units) (pe_dfX Dread_declarations hr (by omega) passX0 (pa_cons pe_str pa_nil)) (pe_tupN pa_nil) (nomark _)))))), ?_⟩
    refine ⟨_, rfl, a, ns, rfl, hS, by omega, fun d g c0 H1 e1 nd' ng nc dg S0 => ?_⟩
    have hmin : ∀ n : Nat, n ≤ 63 → 0 ≤ (4 + (if (8 : Int) < (n : Int) then (8 : Int) else (n : Int))) ∧ (4 + (if (8 : Int) < (n : Int) then (8 : Int) else (n : Int))) ≤ 20 := fun n h => by split <;> omega
    obtain ⟨m0, m1⟩ := hmin ns.length hl
    refine ⟨_, rfl, _, ns.length, rfl, .inl ⟨_, e1.seq hS, by rw [List.length_map]⟩, _, _, rfl, add_i ⟨_, rfl, by omega, by omega, for_range (fun i σ H2 => Fr6 a d σ ∧ Stt H2 d g c0 (20000 * i) ∧ Tabs [(Pt, lamQ)] H2) ⟨fr6_mk, S0, hT.ext e1⟩ ?_ ?_⟩⟩
    · rintro i σ H2 hi ⟨⟨v2, v3, v4, v5, v6, v7, v8, v9, v10, v11, v12, v13, v14, v15, v16, v17, rfl⟩, S, hT⟩
      have hc0 : 20000 * i ≤ 400000 := by
        have : i < 20 := by omega
        omega
      rw [show 20000 * (i + 1) = 20000 * i + 20000 by omega]
      generalize 20000 * i = Z at *
      have hT2 : topT = 1099511627776 := rfl
      -- some
      refine ⟨_, rfl, d, g, c0, Z, 4, rfl, S, by omega, by decide, by decide, fun r H3 C3 S3 r0 r1 => ?_⟩
      obtain ⟨n, rfl⟩ : ∃ n : Nat, r = n := ⟨r.toNat, by omega⟩
      have hn3 : n ≤ 3 := by omega
      replace hT := RS.Tabs.ch hT C3 S
      clear C3 S
      refine ⟨_, rfl, by omega, by omega, fun D nD => lc_range (fun j H4 => ∃ (xs : List V) (ds : List Dcl), Stt H4 d g c0 (Z + 1 + 6200 * j) ∧ Ch d g H3 H4 ∧ H4 D = some (.lst xs) ∧ DtAll K H4 xs (ds.map Dcl.pd) ∧ ds.length = j ∧ ∀ b ∈ ds, GD b)
        ⟨[], [], (S3.new nD).mono (by omega), Ch.new nD, upd_same, .nil, rfl, fun b hb => nomatch hb⟩ (fun j H4 hj ⟨xs, ds, S4, C4, hD4, dA, lds, gds⟩ => ?_) (fun H4 ⟨xs, ds, S4, C4, hD4, dA, lds, gds⟩ => ?_)⟩
      · obtain ⟨Dd, Dg, Dc⟩ := S3.fresh6 nD
        have hj2 : j ≤ 2 := by omega
        have lxs : xs.length = j := by rw [dA.length, List.length_map, lds]
        refine ⟨rfl, _, rfl, d, g, c0, Z + 1 + 6200 * j, rfl, S4, by omega, fun dc vd H5 C5 S5 dd gd => ?_⟩
        have hD5 := C5 _ _ Dd Dg hD4
        refine ⟨xs, hD5, lt_line (by omega), xs ++ [vd], ds ++ [dc], (S5.mut Dd Dg Dc).mono (by omega), (C4.trans C5).mut nD, upd_same, ?_, by rw [List.length_append, lds]; rfl, ?_⟩
        · rw [List.map_append]
          exact DtAll.append (DtAll.keep ((C5.tk S4).trans (TK.lst hD5)) _ dA) (.cons (Dt.keep (TK.lst hD5) _ dd) .nil)
        · intro b hb
          rcases List.mem_append.mp hb with hb | hb
          · exact gds b hb
          · rw [List.mem_singleton.mp hb]; exact gd
      rw [Int.toNat_natCast] at S4 lds
      have hds : ds.length ≤ 3 := by omega
      replace hT := RS.Tabs.ch hT C4 S3
      replace S4 : Stt H4 d g c0 (Z + 19000) := S4.mono (by omega)
      refine ⟨D, _, rfl, .inl ⟨SqL.of hD4, fun tp ntp => ?_⟩⟩
      have e5 : Same H4 (upd H4 tp (.tup xs)) := same_new ntp
      have dt : Dt K (upd H4 tp (.tup xs)) (.ref tp) (.tuple (ds.map Dcl.pd)) := .tup (SqT.of upd_same) (DtAll.keep (TK.same e5) _ dA)
      have hT5 := hT.ext e5
      have S5 := S4.keep e5
      generalize upd H4 tp (.tup xs) = H5 at e5 dt hT5 S5 ⊢
      clear S4 hT e5 ntp dA hD4 C4 S3 nD lds hn3 r0 r1
      -- rows
      refine lst_new (Nat.zero_le _) fun lr0 nlr0 => ?_
      obtain ⟨tpa, xs', etp, hT5t, hD5⟩ := dt.tupI
      cases etp
      clear xs
      have lxs : xs'.length = ds.length := by rw [hD5.length, List.length_map]
      have rl := rowsD_len gds
      have rls : ∀ j, (rowsD (ds.take j)).length ≤ 126 := fun j => by
        have h1 := (rowsD_len (ds := ds.take j) fun b hb => gds b (List.mem_of_mem_take hb)).1
        have h2 : 42 * (ds.take j).length ≤ 42 * 3 := Nat.mul_le_mul_left _ (by rw [List.length_take]; omega)
        omega
      refine ⟨_, rfl, tp, rfl, .inr ⟨⟨xs', sqs hT5t (same_new nlr0)⟩, for_tup (K := K) (a := tp) (xs := xs')
        (fun j σ H6 => ∃ lr, F3 a d tp lr σ ∧ Same H5 H6 ∧ H5 lr = none ∧ H6 lr = some (.lst ((rowsD (ds.take j)).map V.str)))
        ⟨lr0, f3_mk, same_new nlr0, nlr0, upd_same⟩ (fun j σ H6 _ ⟨_, _, c1, _⟩ => sqs hT5t c1) ?_ ?_⟩⟩
      · rintro j vx σ H6 hj ⟨lr, ⟨v2, v5, v6, v7, v8, v9, v10, v11, v12, v13, v14, v15, v16, v17, rfl⟩, c1, nlr, hlr⟩
        obtain ⟨dm, hdm, dx⟩ := (DtAll.keep (TK.same c1) _ hD5).get hj
        rw [List.getElem?_map] at hdm
        obtain ⟨dc, hdc, rfl⟩ := Option.map_eq_some_iff.mp hdm
        have gd := gds dc (List.mem_of_getElem? hdc)
        refine ⟨_, rfl, vx, dc, rfl, dx, gd.wf, gd.len, fun pt H7 e7 n7 h7 => ?_⟩
        have hj1 := rls j
        have hgl := gd.len
        refine ⟨_, rfl, _, rfl, cat_st (e7 _ _ hlr) h7 (by omega) fun lr2 nlr2 => ?_⟩
        have e8 : Same H7 (upd H7 lr2 (.lst ((rowsD (ds.take j) ++ dc.rows).map V.str))) := same_new nlr2
        have hlr2 : upd H7 lr2 (.lst ((rowsD (ds.take j) ++ dc.rows).map V.str)) lr2 = some (.lst ((rowsD (ds.take (j + 1))).map V.str)) := by
          rw [upd_same, take_snoc hdc]
          unfold rowsD
          rw [List.flatMap_append, List.flatMap_cons, List.flatMap_nil, List.append_nil]
        have nf2 : H5 lr2 = none := (c1.trans e7).free nlr2
        generalize upd H7 lr2 (.lst ((rowsD (ds.take j) ++ dc.rows).map V.str)) = H8 at e8 hlr2 ⊢
        have c8 := (c1.trans e7).trans e8
        refine ⟨⟨_, rfl⟩, _, rfl, "\n", pt, _, rfl, rfl, .inl (SqL.of (e8 _ _ h7)), by have := gd.sum; rw [nl_len]; unfold sumL at this; omega, ?_⟩
        have hasc : asc dc.text := asc_joinN gd.gd
        have htl := text_le gd
        have O1 : OkdA [.str dc.text, .str dc.text] 0 700000 := (OkdA.cons (Okd.text hasc) (.cons (Okd.text hasc) .nil)).mono (Nat.le_refl _) (by omega)
        have O2 : OkdA [dc.pd, dc.pd] 20 700000 := (OkdA.cons gd.ok (.cons gd.ok .nil)).mono (Nat.le_refl _) (by omega)
        have dx8 := dx.same (e7.trans e8)
        refine ⟨_, rfl, dt1_ok dx8 gd fun H9 e9 => ⟨_, rfl, rfl, dt1_ok (dx8.same e9) gd fun H10 e10 => ?_⟩⟩
        refine lst_new (by show 2 ≤ 1000; decide) fun l1 n1 => rpL (K := K) (ds := [.str dc.text, .str dc.text]) (SqL.of upd_same) (.cons (.str _) (.cons (.str _) .nil)) O1 (by decide) (by decide) ?_
        refine ⟨_, rfl, _, rfl, lst_new (xs := [.str dc.text, .str dc.text]) (by show 2 ≤ 1000; decide) fun l2 n2 => rpL (K := K) (ds := [.str dc.text, .str dc.text]) (SqL.of upd_same) (.cons (.str _) (.cons (.str _) .nil)) O1 (by decide) (by decide) ?_⟩
        refine eq_str (b := false) (by simp) ⟨_, rfl, iteF ?_⟩
        have e11 := ((e9.trans e10).trans (same_new (o := .lst [.str dc.text, .str dc.text]) n1)).trans (same_new (o := .lst [.str dc.text, .str dc.text]) n2)
        generalize upd (upd H10 l1 (.lst [.str dc.text, .str dc.text])) l2 (.lst [.str dc.text, .str dc.text]) = H11 at e11 ⊢
        clear n1 n2 e9 e10
        have dx11 := dx8.same e11
        have c11 := c8.trans e11
        have hlr11 := e11 _ _ hlr2
        clear dx8 e11 c8 hlr2 e8 e7 hlr dx h7 n7 hdm
        refine ⟨_, rfl, rd1_ok gd fun u1 H12 e12 d1 => ⟨_, rfl, rfl, rd1_ok gd fun u2 H13 e13 d2 => ?_⟩⟩
        refine lst_new (by show 2 ≤ 1000; decide) fun l1 n1 => rpL (K := K) (SqL.of upd_same) (.cons ((d1.same e13).same (same_new n1)) (.cons (d2.same (same_new n1)) .nil)) O2 (by decide) (by decide) ?_
        have e14 := (e12.trans e13).trans (same_new (o := .lst [u1, u2]) n1)
        refine ⟨_, rfl, _, rfl, lst_new (by show 2 ≤ 1000; decide) fun l2 n2 => rpL (K := K) (SqL.of upd_same) (.cons ((dx11.same e14).same (same_new n2)) (.cons ((dx11.same e14).same (same_new n2)) .nil)) O2 (by decide) (by decide) ?_⟩
        refine eq_str (b := false) (by simp) ⟨_, rfl, iteF ?_⟩
        have e15 := e14.trans (same_new (o := .lst [vx, vx]) n2)
        exact ⟨lr2, f3_mk, c11.trans e15, nf2, e15 _ _ hlr11⟩
      · rintro σ H6 ⟨lr, ⟨v2, v5, v6, v7, v8, v9, v10, v11, v12, v13, v14, v15, v16, v17, rfl⟩, c1, nlr, hlr⟩
        rw [lxs, List.take_length] at hlr
        obtain ⟨r1, r2, r3⟩ := rl
        have m42 : 42 * ds.length ≤ 126 := by omega
        have m82 : 82000 * ds.length ≤ 246000 := by omega
        have hjl : (joinN (rowsD ds)).length ≤ 246000 := Nat.le_trans (joinN_le (rowsD ds)) (Nat.le_trans r2 m82)
        have L0 : Lp K Pt d g c0 lr tp ds H6 (Z + 19000) := ⟨S5.keep c1, hT5.ext c1, dt.same c1, hlr, (S5.fresh6 nlr).1, (S5.fresh6 nlr).2.1⟩
        clear S5 hT5 dt hlr nlr c1 hT5t hD5 lxs rls nlr0 lr0
        refine ⟨⟨_, rfl⟩, _, rfl, "\n", lr, rowsD ds, rfl, rfl, .inl (SqL.of L0.w), by rw [nl_len]; unfold sumL at r2; omega, ?_⟩
        obtain ⟨tx, etx⟩ : ∃ tx, tx = Txt.join "\n" (rowsD ds) := ⟨_, rfl⟩
        rw [← etx]
        have etx' : joinN (rowsD ds) = tx := etx.symm
        have hasc : asc tx := by rw [← etx']; exact asc_joinN r3
        have htl : tx.length ≤ 246000 := by rw [← etx']; exact hjl
        have O1 : OkdA [.str tx, .str tx] 0 700000 := (OkdA.cons (Okd.text hasc) (.cons (Okd.text hasc) .nil)).mono (Nat.le_refl _) (by omega)
        have O2 : OkdA [.tuple (ds.map Dcl.pd), .tuple (ds.map Dcl.pd)] 21 700000 := (OkdA.cons (okd_tup hds gds) (.cons (okd_tup hds gds) .nil)).mono (Nat.le_refl _) (by omega)
        have dts : ∀ {H : Hp} {Q : VK} {E : XK}, Dt K H (.ref tp) (.tuple (ds.map Dcl.pd)) → (∀ H', Same H H' → Q (.str tx) H') → spDTs K CD [.ref tp] H Q E := fun {H Q E} dt k => dts_ok dt (fun b hb => (gds b hb).wf) (by omega) fun H' e => by rw [etx']; exact k H' e
        have rds : ∀ {H : Hp} {Q : VK} {E : XK}, (∀ v H', Same H H' → Dt K H' v (.tuple (ds.map Dcl.pd)) → Q v H') → spRdAll K CT [.str tx] H Q E := fun {H Q E} k => by rw [← etx']; exact rdAll_ok6 hds gds k
        refine ⟨_, rfl, dts L0.dt fun H7 e7 => ⟨_, rfl, rfl, dts (L0.dt.same e7) fun H8 e8 => ?_⟩⟩
        refine lst_new (xs := [.str tx, .str tx]) (by show 2 ≤ 1000; decide) fun l1 n1 => rpL (K := K) (ds := [.str tx, .str tx]) (SqL.of upd_same) (.cons (.str _) (.cons (.str _) .nil)) O1 (by decide) (by decide) ?_
        refine ⟨_, rfl, _, rfl, lst_new (xs := [.str tx, .str tx]) (by show 2 ≤ 1000; decide) fun l2 n2 => rpL (K := K) (ds := [.str tx, .str tx]) (SqL.of upd_same) (.cons (.str _) (.cons (.str _) .nil)) O1 (by decide) (by decide) ?_⟩
        refine eq_str (b := false) (by simp) ⟨_, rfl, iteF ?_⟩
        have e9 := ((e7.trans e8).trans (same_new (o := .lst [.str tx, .str tx]) n1)).trans (same_new (o := .lst [.str tx, .str tx]) n2)
        generalize upd (upd H8 l1 (.lst [.str tx, .str tx])) l2 (.lst [.str tx, .str tx]) = H9 at e9 ⊢
        replace L0 := L0.same e9
        clear e9 n1 n2 e7 e8 l1 l2
        refine ⟨_, rfl, rds fun u1 H12 e12 d1 => ⟨_, rfl, rfl, rds fun u2 H13 e13 d2 => ?_⟩⟩
        refine lst_new (by show 2 ≤ 1000; decide) fun l1 n1 => rpL (K := K) (SqL.of upd_same) (.cons ((d1.same e13).same (same_new n1)) (.cons (d2.same (same_new n1)) .nil)) O2 (by decide) (by decide) ?_
        have e14 := (e12.trans e13).trans (same_new (o := .lst [u1, u2]) n1)
        refine ⟨_, rfl, _, rfl, lst_new (by show 2 ≤ 1000; decide) fun l2 n2 => rpL (K := K) (SqL.of upd_same) (.cons ((L0.dt.same e14).same (same_new n2)) (.cons ((L0.dt.same e14).same (same_new n2)) .nil)) O2 (by decide) (by decide) ?_⟩
        refine eq_str (b := false) (by simp) ⟨_, rfl, iteF ?_⟩
        have e15 := e14.trans (same_new (o := .lst [.ref tp, .ref tp]) n2)
        generalize upd (upd H13 l1 (.lst [u1, u2])) l2 (.lst [.ref tp, .ref tp]) = H14 at e15 ⊢
        replace L0 := L0.same e15
        clear e15 e14 n1 n2 d1 d2 e12 e13 O1 O2 l1 l2 dts rds
        -- the laps
        refine ⟨4, rfl, by decide, by decide, for_range (fun j σ H7 => F6 a d tp lr tx σ ∧ Lp K Pt d g c0 lr tp ds H7 (Z + 19000 + 10 * j)) ⟨f6_mk, L0.mono (by omega)⟩ ?_ ?_⟩
        · clear L0
          rintro j σ H7 hj ⟨⟨v2, v5, v7, v8, v9, v10, v11, v12, v13, v14, v15, v16, v17, rfl⟩, L⟩
          have hj4 : j < 4 := hj
          rw [show Z + 19000 + 10 * (j + 1) = Z + 19000 + 10 * j + 10 by omega]
          have hY : Z + 19000 + 10 * j ≤ 500000 := by omega
          generalize Z + 19000 + 10 * j = Y at *
          have hrn : (rowsD ds).length ≤ 126 := by omega
          refine ⟨_, rfl, _, rfl, _, (rowsD ds).length, rfl, lenW L.w, add_i ⟨d, g, c0, Y, ((rowsD ds).length : Int) + 1, rfl, L.S, by omega, by omega, by omega, fun r H9 C9 S9 r0 r1' => ?_⟩⟩
          obtain ⟨n, rfl⟩ : ∃ n : Nat, r = n := ⟨r.toNat, by omega⟩
          replace L := L.ch C9 S9
          clear C9 S9
          refine ⟨_, rfl, lst_new (xs := oddR.map V.str) (by decide) fun p np => ?_⟩
          obtain ⟨pd, pg, _⟩ := L.S.fresh6 np
          replace L := L.new (o := .lst (oddR.map V.str)) np
          refine ⟨d, g, c0, Y + 1, p, oddR.map V.str, rfl, L.S, upd_same, pg, by decide, by decide, by omega, fun ix ox H10 hox C10 S10 => ?_⟩
          obtain ⟨odd, hodd, rfl⟩ := pick_str hox
          replace L := L.ch C10 S10
          clear C10 S10 hox pd pg np
          -- near
          have sz : ∀ k, ((rowsD ds).take k).length ≤ 126 ∧ ((rowsD ds).drop k).length ≤ 126 := fun k => by rw [List.length_take, List.length_drop]; omega
          refine ⟨⟨_, rfl⟩, _, rfl, ?_⟩
          -- words[:at] + [odd] + words[at:]
          refine ⟨_, rfl, _, rfl, ⟨(n : Int), rfl, slT6 L.w fun q1 m1 => ⟨_, rfl, one_st fun q2 m2 => ?_⟩⟩⟩
          replace L := (L.new (o := .lst (((rowsD ds).take n).map V.str)) m1).new (o := .lst (([odd] : List Str).map V.str)) m2
          refine cat_st ((upd_ne (ne_of_none upd_same m2)).trans upd_same) upd_same (by have := (sz n).1; rw [List.length_singleton]; omega) fun q3 m3 => ?_
          have h3 : upd (upd (upd H10 q1 (.lst (((rowsD ds).take n).map V.str))) q2 (.lst (([odd] : List Str).map V.str))) q3 (.lst (((rowsD ds).take n ++ [odd]).map V.str)) q3 = some (.lst (((rowsD ds).take n ++ [odd]).map V.str)) := upd_same
          replace L := L.new (o := .lst (((rowsD ds).take n ++ [odd]).map V.str)) m3
          generalize upd (upd (upd H10 q1 (.lst (((rowsD ds).take n).map V.str))) q2 (.lst (([odd] : List Str).map V.str))) q3 (.lst (((rowsD ds).take n ++ [odd]).map V.str)) = H11 at L h3 ⊢
          clear m1 m2 m3
          refine ⟨_, rfl, _, rfl, ⟨(n : Int), rfl, slF6 L.w fun q4 m4 => cat_st ((upd_ne (ne_of_none h3 m4)).trans h3) upd_same (by have := sz n; rw [List.length_append, List.length_singleton]; omega) fun A mA => ?_⟩⟩
          replace L := L.new (o := .lst (((rowsD ds).drop n).map V.str)) m4
          obtain ⟨Ad, Ag, _⟩ := L.S.fresh6 mA
          replace L := L.new (o := .lst (((rowsD ds).take n ++ [odd] ++ (rowsD ds).drop n).map V.str)) mA
          have hA : upd (upd H11 q4 (.lst (((rowsD ds).drop n).map V.str))) A (.lst (((rowsD ds).take n ++ [odd] ++ (rowsD ds).drop n).map V.str)) A = some (.lst (((rowsD ds).take n ++ [odd] ++ (rowsD ds).drop n).map V.str)) := upd_same
          generalize upd (upd H11 q4 (.lst (((rowsD ds).drop n).map V.str))) A (.lst (((rowsD ds).take n ++ [odd] ++ (rowsD ds).drop n).map V.str)) = H12 at L hA ⊢
          clear m4 mA h3
          -- words[:at] + words[at + 1:]
          refine ⟨_, rfl, _, rfl, ⟨(n : Int), rfl, slT6 L.w fun q5 m5 => ?_⟩⟩
          have h5 : upd H12 q5 (.lst (((rowsD ds).take n).map V.str)) q5 = some (.lst (((rowsD ds).take n).map V.str)) := upd_same
          replace hA := (upd_ne (o := .lst (((rowsD ds).take n).map V.str)) (ne_of_none hA m5)).trans hA
          replace L := L.new (o := .lst (((rowsD ds).take n).map V.str)) m5
          generalize upd H12 q5 (.lst (((rowsD ds).take n).map V.str)) = H13 at L hA h5 ⊢
          clear m5
          refine ⟨_, rfl, _, rfl, add_i ⟨((n + 1 : Nat) : Int), rfl, slF6 L.w fun q6 m6 => cat_st ((upd_ne (ne_of_none h5 m6)).trans h5) upd_same (by have h1 := (sz n).1; have h2 := (sz (n + 1)).2; omega) fun B mB => ?_⟩⟩
          replace hA := (upd_ne (o := .lst (((rowsD ds).drop (n + 1)).map V.str)) (ne_of_none hA m6)).trans hA
          replace L := L.new (o := .lst (((rowsD ds).drop (n + 1)).map V.str)) m6
          obtain ⟨Bd', Bg, _⟩ := L.S.fresh6 mB
          replace hA := (upd_ne (o := .lst (((rowsD ds).take n ++ (rowsD ds).drop (n + 1)).map V.str)) (ne_of_none hA mB)).trans hA
          replace L := L.new (o := .lst (((rowsD ds).take n ++ (rowsD ds).drop (n + 1)).map V.str)) mB
          have hB : upd (upd H13 q6 (.lst (((rowsD ds).drop (n + 1)).map V.str))) B (.lst (((rowsD ds).take n ++ (rowsD ds).drop (n + 1)).map V.str)) B = some (.lst (((rowsD ds).take n ++ (rowsD ds).drop (n + 1)).map V.str)) := upd_same
          generalize upd (upd H13 q6 (.lst (((rowsD ds).drop (n + 1)).map V.str))) B (.lst (((rowsD ds).take n ++ (rowsD ds).drop (n + 1)).map V.str)) = H14 at L hA hB ⊢
          clear m6 mB h5
          -- words[:at] + [odd] + words[at + 1:]
          refine ⟨_, rfl, _, rfl, ⟨(n : Int), rfl, slT6 L.w fun q1 m1 => ⟨_, rfl, one_st fun q2 m2 => ?_⟩⟩⟩
          have e15 : Same H14 (upd (upd H14 q1 (.lst (((rowsD ds).take n).map V.str))) q2 (.lst (([odd] : List Str).map V.str))) := (same_new m1).trans (same_new m2)
          refine cat_st ((upd_ne (ne_of_none upd_same m2)).trans upd_same) upd_same (by have := (sz n).1; rw [List.length_singleton]; omega) fun q3 m3 => ?_
          have e16 := e15.trans (same_new (o := .lst (((rowsD ds).take n ++ [odd]).map V.str)) m3)
          have h3 : upd (upd (upd H14 q1 (.lst (((rowsD ds).take n).map V.str))) q2 (.lst (([odd] : List Str).map V.str))) q3 (.lst (((rowsD ds).take n ++ [odd]).map V.str)) q3 = some (.lst (((rowsD ds).take n ++ [odd]).map V.str)) := upd_same
          generalize upd (upd (upd H14 q1 (.lst (((rowsD ds).take n).map V.str))) q2 (.lst (([odd] : List Str).map V.str))) q3 (.lst (((rowsD ds).take n ++ [odd]).map V.str)) = H16 at e16 h3 ⊢
          replace L := L.same e16
          replace hA := e16 _ _ hA
          replace hB := e16 _ _ hB
          clear m1 m2 m3 e15 e16
          refine ⟨_, rfl, _, rfl, add_i ⟨((n + 1 : Nat) : Int), rfl, slF6 L.w fun q4 m4 => cat_st ((upd_ne (ne_of_none h3 m4)).trans h3) upd_same (by have h1 := (sz n).1; have h2 := (sz (n + 1)).2; rw [List.length_append, List.length_singleton]; omega) fun D mD => ?_⟩⟩
          have e17 := same_new (o := .lst (((rowsD ds).drop (n + 1)).map V.str)) m4
          replace L := L.same e17
          obtain ⟨Dd, Dg, _⟩ := L.S.fresh6 mD
          have e18 := e17.trans (same_new (o := .lst (((rowsD ds).take n ++ [odd] ++ (rowsD ds).drop (n + 1)).map V.str)) mD)
          replace L := L.new (o := .lst (((rowsD ds).take n ++ [odd] ++ (rowsD ds).drop (n + 1)).map V.str)) mD
          replace hA := e18 _ _ hA
          replace hB := e18 _ _ hB
          have hD : upd (upd H16 q4 (.lst (((rowsD ds).drop (n + 1)).map V.str))) D (.lst (((rowsD ds).take n ++ [odd] ++ (rowsD ds).drop (n + 1)).map V.str)) D = some (.lst (((rowsD ds).take n ++ [odd] ++ (rowsD ds).drop (n + 1)).map V.str)) := upd_same
          generalize upd (upd H16 q4 (.lst (((rowsD ds).drop (n + 1)).map V.str))) D (.lst (((rowsD ds).take n ++ [odd] ++ (rowsD ds).drop (n + 1)).map V.str)) = H18 at L hA hB hD ⊢
          clear e17 e18 m4 mD h3
          refine lst_new (xs := [.ref A, .ref B, .ref D]) (by show 3 ≤ 1000; decide) fun pl npl => ?_
          have e20 := same_new (o := .lst [V.ref A, V.ref B, V.ref D]) npl
          obtain ⟨_, plg, _⟩ := L.S.fresh6 npl
          replace L := L.same e20
          refine ⟨d, g, c0, Y + 2, pl, _, rfl, L.S.mono (by omega), upd_same, plg, by show 0 < 3; decide, by show 3 ≤ 1000; decide, by omega, fun iy oy H21 hoy C21 S21 => ?_⟩
          obtain ⟨ln, nl, rfl, hln, hnl⟩ : ∃ (ln : Addr) (nl : List Str), oy = .ref ln ∧ H21 ln = some (.lst (nl.map V.str)) ∧ (nl = (rowsD ds).take n ++ [odd] ++ (rowsD ds).drop n ∨ nl = (rowsD ds).take n ++ (rowsD ds).drop (n + 1) ∨ nl = (rowsD ds).take n ++ [odd] ++ (rowsD ds).drop (n + 1)) := by
            match iy, hoy with
            | 0, e => exact ⟨A, _, (Option.some.inj e).symm, C21 _ _ Ad Ag (e20 _ _ hA), .inl rfl⟩
            | 1, e => exact ⟨B, _, (Option.some.inj e).symm, C21 _ _ Bd' Bg (e20 _ _ hB), .inr (.inl rfl)⟩
            | 2, e => exact ⟨D, _, (Option.some.inj e).symm, C21 _ _ Dd Dg (e20 _ _ hD), .inr (.inr rfl)⟩
            | i + 3, e => simp at e
          replace L := L.ch C21 S21
          obtain ⟨okn, lnn, lens⟩ := near_nr (fun z hz => (r3 z hz).nr) hodd hnl
          clear hA hB hD hoy C21 S21 e20 plg npl hnl
          have hjn : (joinN nl).length ≤ 250000 := by
            have h1 := joinN_le nl
            have h2 : lensL (rowsD ds) ≤ 246000 := by unfold sumL at r2; unfold lensL; omega
            unfold lensL at lens h2
            omega
          refine ⟨"\n", ln, nl, rfl, rfl, .inl (SqL.of hln), by rw [nl_len]; have h2 : lensL (rowsD ds) ≤ 246000 := (by unfold sumL at r2; unfold lensL; omega); unfold lensL at lens h2; omega, ?_⟩
          obtain ⟨told, etold⟩ : ∃ told, told = Txt.join "\n" nl := ⟨_, rfl⟩
          have etold' : joinN nl = told := etold.symm
          rw [← etold]
          obtain ⟨okN, lnN⟩ := near_okRs okn (by omega)
          rw [etold'] at okN lnN hjn
          refine ⟨L.T, fun H23 x23 T23 => ⟨⟨_, rfl, ⟨⟨_, rfl, .inl ⟨told, rfl, by omega, okN, ?_⟩⟩⟩⟩⟩⟩
          replace L := L.xt x23 T23
          clear hln x23 T23
          cases eR : RdAll (nearRs told) 0 with
          | ok ds' =>
            intro v H24 e24 dv
            replace L := L.same e24
            obtain ⟨wf', ej, er⟩ := near_text okN.2 (by have := okN.1; omega) eR
            rw [texts_join] at ej
            refine ⟨_, rfl, rfl, _, rfl, iteT ?_⟩
            refine ⟨_, rfl, ⟨⟨_, rfl, .inl ⟨told, rfl, by omega, okN, ?_⟩⟩⟩⟩
            rw [eR]
            intro v2 H27 e27 dv2
            refine dts_ok dv2 wf' (by show (ds'.flatMap Dcl.rows).length ≤ 1000; rw [er]; exact okN.1) fun H28 e28 => ⟨_, rfl, eq_str (b := false) (by rw [show joinN (rowsD ds') = told from ej]; simp) ⟨_, rfl, iteF ?_⟩⟩
            exact ⟨f6_mk, (L.same (e27.trans e28)).mono (by omega)⟩
          | error kk =>
            intro dd H24 e24 ndd hdd
            replace L := L.same e24
            refine ⟨eT, fun aE naE => ?_⟩
            replace L := L.new (o := exT (.ref CT) (some dd) aE) naE
            have hd2 := (upd_ne (o := exT (.ref CT) (some dd) aE) (ne_of_none hdd naE)).trans hdd
            have ha2 : upd H24 aE (exT (.ref CT) (some dd) aE) aE = some (exT (.ref CT) (some dd) aE) := upd_same
            generalize upd H24 aE (exT (.ref CT) (some dd) aE) = H25 at L hd2 ha2 ⊢
            have hx : ExC K H25 aE (.ref CT) := .dict xT ha2 hd2
            have hkk : kk ≤ (rowsOf told).length := Nat.le_trans (rdAll_in _ _ _ (Nat.zero_le _) kk eR) (nearRs_le told)
            refine ⟨_, rfl, rfl, _, rfl, iteF ?_⟩
            refine ws_val false (.or (a := false) (b := false) (fun Q' q => ⟨_, rfl, ⟨⟨aE, CT, "text ", rfl, hx, kT, eq_str (b := false) (by decide +kernel) ⟨_, rfl, q _ (Same.refl _)⟩⟩⟩⟩)
              (fun _ H3' e3' Q' q => ⟨_, rfl, ⟨⟨aE, CT, dd, _, _, rfl, xT, noT, e3' _ _ ha2, e3' _ _ hd2, rfl, ?_⟩⟩⟩)) (fun H16 e16 => iteF ?_)
            · refine ⟨_, _, rfl, rfl, _, rfl, ?_⟩
              rw [decide_eq_true (show (0 : Int) ≤ (kk : Nat) by omega)]
              refine iteT ⟨_, rfl, ⟨_, rfl⟩, told, "\n", rfl, rfl, by decide +kernel, by rw [sizeLine_eq]; omega, fun lw2 nw2 => ⟨_, (rowsOf told).length, rfl, lenW upd_same, _, _, rfl, rfl, _, rfl, ?_⟩⟩
              rw [decide_eq_true (show ((kk : Nat) : Int) ≤ ((rowsOf told).length : Nat) by omega)]
              exact q _ (same_new nw2)
            · exact ⟨f6_mk, (L.same e16).mono (by omega)⟩
        · clear L0
          rintro σ H7 ⟨⟨v2, v5, v7, v8, v9, v10, v11, v12, v13, v14, v15, v16, v17, rfl⟩, L⟩
          refine tup_new (K := K) (ds := [.str "kind K 0 1\ntype Set1", .int 2]) (.cons (.str _) (.cons (.int _) .nil)) (by show 2 ≤ 1000; decide) fun t1 I1 x1 q1 => ?_
          replace L := L.same x1
          clear x1
          refine tup_new (K := K) (ds := [.str "kind K 0 0\ntype $0", .int 1]) (.cons (.str _) (.cons (.int _) .nil)) (by show 2 ≤ 1000; decide) fun t2 I2 x2 q2 => ?_
          replace L := L.same x2
          replace q1 := q1.same x2
          clear x2
          refine tup_new (K := K) (ds := [.str "function f 1 1 open\ntype Set0\nleaf Set0", .int 0]) (.cons (.str _) (.cons (.int _) .nil)) (by show 2 ≤ 1000; decide) fun t3 I3 x3 q3 => ?_
          replace L := L.same x3
          replace q1 := q1.same x3
          replace q2 := q2.same x3
          clear x3
          refine tup_new (K := K) (ds := [.str "function f 0 none open\ntype Set0\nbarred", .int 2]) (.cons (.str _) (.cons (.int _) .nil)) (by show 2 ≤ 1000; decide) fun t4 I4 x4 q4 => ?_
          replace L := L.same x4
          replace q1 := q1.same x4
          replace q2 := q2.same x4
          replace q3 := q3.same x4
          clear x4
          refine lst_new (xs := [t1, t2, t3, t4]) (by show 4 ≤ 1000; decide) fun lp nlp => ?_
          have xp : Same I4 (upd I4 lp (.lst [t1, t2, t3, t4])) := same_new nlp
          have dC : DtAll K I4 [t1, t2, t3, t4] [PyData.tuple [.str "kind K 0 1\ntype Set1", .int 2], PyData.tuple [.str "kind K 0 0\ntype $0", .int 1], PyData.tuple [.str "function f 1 1 open\ntype Set0\nleaf Set0", .int 0], PyData.tuple [.str "function f 0 none open\ntype Set0\nbarred", .int 2]] := (DtAll.cons q1 (DtAll.cons q2 (DtAll.cons q3 (DtAll.cons q4 (DtAll.nil)))))
          have hP : (upd I4 lp (.lst [t1, t2, t3, t4])) lp = some (.lst [t1, t2, t3, t4]) := upd_same
          have dP : DtAll K (upd I4 lp (.lst [t1, t2, t3, t4])) [t1, t2, t3, t4] [PyData.tuple [.str "kind K 0 1\ntype Set1", .int 2], PyData.tuple [.str "kind K 0 0\ntype $0", .int 1], PyData.tuple [.str "function f 1 1 open\ntype Set0\nleaf Set0", .int 0], PyData.tuple [.str "function f 0 none open\ntype Set0\nbarred", .int 2]] := DtAll.keep (TK.same xp) _ dC
          replace L := L.same xp
          generalize (upd I4 lp (.lst [t1, t2, t3, t4])) = J1 at L hP dP ⊢
          clear xp nlp dC q1 q2 q3 q4
          skip
          refine ⟨_, rfl, ?_⟩
          refine tup_new (K := K) (ds := [.str "function F 0 none open\ntype Set0\nleaf Set0", .int 0]) (.cons (.str _) (.cons (.int _) .nil)) (by show 2 ≤ 1000; decide) fun t5 I5 x5 q5 => ?_
          replace L := L.same x5
          replace hP := x5 _ _ hP
          replace dP := DtAll.keep (TK.same (K := K) x5) _ dP
          clear x5
          refine tup_new (K := K) (ds := [.str "kind k 0 0\ntype Set0", .int 0]) (.cons (.str _) (.cons (.int _) .nil)) (by show 2 ≤ 1000; decide) fun t6 I6 x6 q6 => ?_
          replace L := L.same x6
          replace q5 := q5.same x6
          replace hP := x6 _ _ hP
          replace dP := DtAll.keep (TK.same (K := K) x6) _ dP
          clear x6
          refine tup_new (K := K) (ds := [.str "kind K 0 1\ntype Set0\nmaker m Set0", .int 2]) (.cons (.str _) (.cons (.int _) .nil)) (by show 2 ≤ 1000; decide) fun t7 I7 x7 q7 => ?_
          replace L := L.same x7
          replace q5 := q5.same x7
          replace q6 := q6.same x7
          replace hP := x7 _ _ hP
          replace dP := DtAll.keep (TK.same (K := K) x7) _ dP
          clear x7
          refine lst_new (xs := [t5, t6, t7]) (by show 3 ≤ 1000; decide) fun lp nlp => ?_
          have xp : Same I7 (upd I7 lp (.lst [t5, t6, t7])) := same_new nlp
          have dC : DtAll K I7 [t5, t6, t7] [PyData.tuple [.str "function F 0 none open\ntype Set0\nleaf Set0", .int 0], PyData.tuple [.str "kind k 0 0\ntype Set0", .int 0], PyData.tuple [.str "kind K 0 1\ntype Set0\nmaker m Set0", .int 2]] := (DtAll.cons q5 (DtAll.cons q6 (DtAll.cons q7 (DtAll.nil))))
          refine add_l (xp _ _ hP) upd_same (line_of (Nat.le_of_ble_eq_true rfl)) fun ls nls => ?_
          have xr : Same I7 (upd (upd I7 lp (.lst [t5, t6, t7])) ls (.lst ([t1, t2, t3, t4] ++ [t5, t6, t7]))) := xp.trans (same_new nls)
          have hR : (upd (upd I7 lp (.lst [t5, t6, t7])) ls (.lst ([t1, t2, t3, t4] ++ [t5, t6, t7]))) ls = some (.lst ([t1, t2, t3, t4] ++ [t5, t6, t7])) := upd_same
          have dR : DtAll K (upd (upd I7 lp (.lst [t5, t6, t7])) ls (.lst ([t1, t2, t3, t4] ++ [t5, t6, t7]))) ([t1, t2, t3, t4] ++ [t5, t6, t7]) ([PyData.tuple [.str "kind K 0 1\ntype Set1", .int 2], PyData.tuple [.str "kind K 0 0\ntype $0", .int 1], PyData.tuple [.str "function f 1 1 open\ntype Set0\nleaf Set0", .int 0], PyData.tuple [.str "function f 0 none open\ntype Set0\nbarred", .int 2]] ++ [PyData.tuple [.str "function F 0 none open\ntype Set0\nleaf Set0", .int 0], PyData.tuple [.str "kind k 0 0\ntype Set0", .int 0], PyData.tuple [.str "kind K 0 1\ntype Set0\nmaker m Set0", .int 2]]) := DtAll.append (DtAll.keep (TK.same (K := K) xr) _ dP) (DtAll.keep (TK.same (K := K) xr) _ dC)
          replace L := L.same xr
          generalize (upd (upd I7 lp (.lst [t5, t6, t7])) ls (.lst ([t1, t2, t3, t4] ++ [t5, t6, t7]))) = J2 at L hR dR ⊢
          clear hP dP xr nls
          have hP := hR
          have dP := dR
          clear hR dR
          clear xp nlp dC q5 q6 q7
          skip
          refine ⟨_, rfl, ?_⟩
          refine tup_new (K := K) (ds := [.str "function f 0 none open\ntype Set0\nleaf Set0\nleaf Set0", .int 3]) (.cons (.str _) (.cons (.int _) .nil)) (by show 2 ≤ 1000; decide) fun t8 I8 x8 q8 => ?_
          replace L := L.same x8
          replace hP := x8 _ _ hP
          replace dP := DtAll.keep (TK.same (K := K) x8) _ dP
          clear x8
          refine tup_new (K := K) (ds := [.str "function f 1 0 shut\ntype Set0\nsplit 0 2\nbarred", .int 4]) (.cons (.str _) (.cons (.int _) .nil)) (by show 2 ≤ 1000; decide) fun t9 I9 x9 q9 => ?_
          replace L := L.same x9
          replace q8 := q8.same x9
          replace hP := x9 _ _ hP
          replace dP := DtAll.keep (TK.same (K := K) x9) _ dP
          clear x9
          refine tup_new (K := K) (ds := [.str "", .int 0]) (.cons (.str _) (.cons (.int _) .nil)) (by show 2 ≤ 1000; decide) fun t10 I10 x10 q10 => ?_
          replace L := L.same x10
          replace q8 := q8.same x10
          replace q9 := q9.same x10
          replace hP := x10 _ _ hP
          replace dP := DtAll.keep (TK.same (K := K) x10) _ dP
          clear x10
          refine lst_new (xs := [t8, t9, t10]) (by show 3 ≤ 1000; decide) fun lp nlp => ?_
          have xp : Same I10 (upd I10 lp (.lst [t8, t9, t10])) := same_new nlp
          have dC : DtAll K I10 [t8, t9, t10] [PyData.tuple [.str "function f 0 none open\ntype Set0\nleaf Set0\nleaf Set0", .int 3], PyData.tuple [.str "function f 1 0 shut\ntype Set0\nsplit 0 2\nbarred", .int 4], PyData.tuple [.str "", .int 0]] := (DtAll.cons q8 (DtAll.cons q9 (DtAll.cons q10 (DtAll.nil))))
          refine add_l (xp _ _ hP) upd_same (line_of (Nat.le_of_ble_eq_true rfl)) fun ls nls => ?_
          have xr : Same I10 (upd (upd I10 lp (.lst [t8, t9, t10])) ls (.lst (([t1, t2, t3, t4] ++ [t5, t6, t7]) ++ [t8, t9, t10]))) := xp.trans (same_new nls)
          have hR : (upd (upd I10 lp (.lst [t8, t9, t10])) ls (.lst (([t1, t2, t3, t4] ++ [t5, t6, t7]) ++ [t8, t9, t10]))) ls = some (.lst (([t1, t2, t3, t4] ++ [t5, t6, t7]) ++ [t8, t9, t10])) := upd_same
          have dR : DtAll K (upd (upd I10 lp (.lst [t8, t9, t10])) ls (.lst (([t1, t2, t3, t4] ++ [t5, t6, t7]) ++ [t8, t9, t10]))) (([t1, t2, t3, t4] ++ [t5, t6, t7]) ++ [t8, t9, t10]) (([PyData.tuple [.str "kind K 0 1\ntype Set1", .int 2], PyData.tuple [.str "kind K 0 0\ntype $0", .int 1], PyData.tuple [.str "function f 1 1 open\ntype Set0\nleaf Set0", .int 0], PyData.tuple [.str "function f 0 none open\ntype Set0\nbarred", .int 2]] ++ [PyData.tuple [.str "function F 0 none open\ntype Set0\nleaf Set0", .int 0], PyData.tuple [.str "kind k 0 0\ntype Set0", .int 0], PyData.tuple [.str "kind K 0 1\ntype Set0\nmaker m Set0", .int 2]]) ++ [PyData.tuple [.str "function f 0 none open\ntype Set0\nleaf Set0\nleaf Set0", .int 3], PyData.tuple [.str "function f 1 0 shut\ntype Set0\nsplit 0 2\nbarred", .int 4], PyData.tuple [.str "", .int 0]]) := DtAll.append (DtAll.keep (TK.same (K := K) xr) _ dP) (DtAll.keep (TK.same (K := K) xr) _ dC)
          replace L := L.same xr
          generalize (upd (upd I10 lp (.lst [t8, t9, t10])) ls (.lst (([t1, t2, t3, t4] ++ [t5, t6, t7]) ++ [t8, t9, t10]))) = J3 at L hR dR ⊢
          clear hP dP xr nls
          have hP := hR
          have dP := dR
          clear hR dR
          clear xp nlp dC q8 q9 q10
          skip
          have dP : DtAll K J3 (([t1, t2, t3, t4] ++ [t5, t6, t7]) ++ [t8, t9, t10]) (toldL.map toldD) := dP
          have hP : J3 ls = some (.lst (([t1, t2, t3, t4] ++ [t5, t6, t7]) ++ [t8, t9, t10])) := hP
          generalize (([t1, t2, t3, t4] ++ [t5, t6, t7]) ++ [t8, t9, t10]) = ZS at hP dP
          replace L := L.mono (show Z + 19000 + 10 * (4 : Int).toNat ≤ Z + 19050 by show Z + 19000 + 40 ≤ Z + 19050; omega)
          refine ⟨_, rfl, ls, rfl, .inl ⟨⟨ZS, SqL.of hP⟩, for_list (K := K) (a := ls) (xs := ZS) (fun j σ H8 => F6 a d tp lr tx σ ∧ Lp K Pt d g c0 lr tp ds H8 (Z + 19050) ∧ H8 ls = some (.lst ZS) ∧ DtAll K H8 ZS (toldL.map toldD))
            ⟨f6_mk, L, hP, dP⟩ (fun j σ H8 _ ⟨_, _, c, _⟩ => SqL.of c) ?_ ?_⟩⟩
          · clear L hP dP
            rintro j vx σ H8 hj ⟨⟨v2, v5, v7, v8, v9, v10, v11, v12, v13, v14, v15, v16, v17, rfl⟩, L, hP, dP⟩
            obtain ⟨dm, hdm, dx⟩ := dP.get hj
            rw [List.getElem?_map] at hdm
            obtain ⟨pp, hpp, rfl⟩ := Option.map_eq_some_iff.mp hdm
            have hmem := List.mem_of_getElem? hpp
            unfold toldD at dx
            obtain ⟨am, xm, rfl, hTm, hDm⟩ := dx.tupI
            obtain ⟨w1, q1, rfl, f1, hDm⟩ := hDm.consI
            obtain ⟨w2, q2, rfl, f2, hDm⟩ := hDm.consI
            obtain rfl := hDm.nilI
            obtain rfl := f1.strI
            obtain rfl := f2.intI
            obtain ⟨k1, k2, k3⟩ := told_ok pp hmem
            have te := told_err pp hmem
            have hp2 : pp.2 ≤ 10 := by
              have : (toldL.all fun p => decide (p.2 ≤ 10)) = true := by decide +kernel
              exact of_decide_eq_true (List.all_eq_true.mp this pp hmem)
            refine ⟨am, _, rfl, hTm, rfl, _, _, rfl, .int _, _, rfl, rfl, ?_⟩
            refine ⟨L.T, fun H23 x23 T23 => ⟨⟨_, rfl, ⟨⟨_, rfl, .inl ⟨pp.1, rfl, by omega, ⟨by omega, k3⟩, ?_⟩⟩⟩⟩⟩⟩
            replace L := L.xt x23 T23
            replace hP := x23 _ _ hP (fun _ z => by cases z)
            replace dP := DtAll.keep (xtk (K := K) x23) _ dP
            cases eR : rdOne (rowsOf pp.1) with
            | ok dc => rw [eR] at te; cases te
            | error kk =>
              rw [eR] at te
              obtain rfl : kk = pp.2 := Option.some.inj te
              intro dd H24 e24 ndd hdd
              refine ⟨eT, fun aE naE => ?_⟩
              replace L := (L.same e24).new (o := exT (.ref CT) (some dd) aE) naE
              have e25 : Same H23 (upd H24 aE (exT (.ref CT) (some dd) aE)) := e24.trans (same_new naE)
              replace hP := e25 _ _ hP
              replace dP := DtAll.keep (TK.same (K := K) e25) _ dP
              have hd2 := (upd_ne (o := exT (.ref CT) (some dd) aE) (ne_of_none hdd naE)).trans hdd
              have ha2 : upd H24 aE (exT (.ref CT) (some dd) aE) aE = some (exT (.ref CT) (some dd) aE) := upd_same
              generalize upd H24 aE (exT (.ref CT) (some dd) aE) = H25 at L hd2 ha2 hP dP e25 ⊢
              have hx : ExC K H25 aE (.ref CT) := .dict xT ha2 hd2
              have lg : ((pp.2 : Nat) : Int).natAbs.log2 < 1920 := log_small (by omega) (by omega)
              refine ws_val false (.or (a := false) (b := false) (fun Q' q => ⟨_, rfl, ⟨⟨aE, CT, "text ", rfl, hx, kT, eq_str (b := false) (by decide +kernel) ⟨_, rfl, q _ (Same.refl _)⟩⟩⟩⟩)
                (fun _ H3' e3' Q' q => ⟨_, rfl, ⟨⟨aE, CT, dd, _, _, rfl, xT, noT, e3' _ _ ha2, e3' _ _ hd2, rfl, ⟨_, rfl, lg, _, rfl, ⟨_, rfl, lg, eq_str (b := false) (by simp) ⟨_, rfl, q _ (Same.refl _)⟩⟩⟩⟩⟩⟩)) (fun H16 e16 => iteF ?_)
              exact ⟨f6_mk, L.same e16, e16 _ _ hP, DtAll.keep (TK.same e16) _ dP⟩
          · clear L hP dP
            rintro σ H8 ⟨⟨v2, v5, v7, v8, v9, v10, v11, v12, v13, v14, v15, v16, v17, rfl⟩, L, _, _⟩
            -- bad
            refine ⟨_, rfl, one_st fun b1 m1 => ?_⟩
            obtain ⟨b1d, b1g, _⟩ := L.S.fresh6 m1
            have h1 : upd H8 b1 (.lst ((["kind"] : List Str).map V.str)) b1 = some (.lst ((["kind"] : List Str).map V.str)) := upd_same
            replace L := L.new (o := .lst ((["kind"] : List Str).map V.str)) m1
            generalize upd H8 b1 (.lst ((["kind"] : List Str).map V.str)) = H9 at L h1 ⊢
            clear m1
            refine lst_new (xs := [.non, .int 5, .ref b1, .bl true]) (by show 4 ≤ 1000; decide) fun pl npl => ?_
            have e11 := same_new (o := .lst [.non, .int 5, .ref b1, .bl true]) npl
            obtain ⟨_, plg, _⟩ := L.S.fresh6 npl
            replace L := L.same e11
            refine ⟨d, g, c0, _, pl, _, rfl, L.S, upd_same, plg, by show 0 < 4; decide, by show 4 ≤ 1000; decide, by omega, fun iy oy H12 hoy C12 S12 => ?_⟩
            obtain ⟨ty, kty, hty⟩ : ∃ ty, L2.kitB ty "str" = some false ∧ ∀ H13, ExtN H12 H13 → TyX K H13 oy (.type ty) := by
              match iy, hoy with
              | 0, e => cases Option.some.inj e; exact ⟨"NoneType", by decide +kernel, fun H13 x => .base .non⟩
              | 1, e => cases Option.some.inj e; exact ⟨"int", by decide +kernel, fun H13 x => .base (.int _)⟩
              | 2, e => cases Option.some.inj e; exact ⟨"list", by decide +kernel, fun H13 x => .base (.lst (x _ _ (C12 _ _ b1d b1g (e11 _ _ h1)) (fun _ z => by cases z)))⟩
              | 3, e => cases Option.some.inj e; exact ⟨"bool", by decide +kernel, fun H13 x => .base (.bl _)⟩
              | i + 4, e => simp at e
            replace L := L.ch C12 S12
            clear C12 S12 e11 npl plg h1 hoy
            refine lst_new (xs := [.ref fr1, .ref fra]) (by show 2 ≤ 1000; decide) fun lf nlf => ?_
            have e13 : Same H12 (upd H12 lf (.lst [.ref fr1, .ref fra])) := same_new nlf
            have hlf : upd H12 lf (.lst [.ref fr1, .ref fra]) lf = some (.lst [.ref fr1, .ref fra]) := upd_same
            replace L := L.same e13
            replace hty : ∀ H13, ExtN (upd H12 lf (.lst [.ref fr1, .ref fra])) H13 → TyX K H13 oy (.type ty) := fun H13 x => hty H13 ((ExtN.of e13).trans x)
            generalize upd H12 lf (.lst [.ref fr1, .ref fra]) = Hb at L hlf hty ⊢
            clear e13 nlf
            refine ⟨lf, rfl, .inl ⟨⟨_, SqL.of hlf⟩, for_list (K := K) (a := lf) (xs := [.ref fr1, .ref fra]) (fun j σ H8 => Fb a d oy σ ∧ Lp K Pt d g c0 lr tp ds H8 (Z + 19051) ∧ ExtN Hb H8)
              ⟨fb_mk, L.mono (by omega), ExtN.refl Hb⟩ (fun j σ H8 _ ⟨_, _, x⟩ => SqL.of (x _ _ hlf (fun _ z => by cases z))) ?_ ?_⟩⟩
            · clear L
              rintro j vx σ H8 hj ⟨⟨v2, v3, v4, v5, v6, v7, v8, v10, v11, v12, v13, v14, v15, v16, v17, rfl⟩, L, x8⟩
              obtain ⟨qq, hqq, rfl, hqb⟩ : ∃ qq ∈ sps, vx = .ref qq.1 ∧ ∀ (v : V) (H : Hp) (Q : VK) (E : XK) (t : String), TyX K H v (.type t) → L2.kitB t "str" = some false → badAt CT E H 0 → qq.2 [v] H Q E := by
                match j, hj with
                | 0, e => cases Option.some.inj e; exact ⟨(fr1, spRd1 K CT), by rw [hsps]; simp, rfl, fun v H Q E t h1 h2 h3 => ⟨⟨_, rfl, .inr ⟨t, h1, h2, h3⟩⟩⟩⟩
                | 1, e => cases Option.some.inj e; exact ⟨(fra, spRdAll K CT), by rw [hsps]; simp, rfl, fun v H Q E t h1 h2 h3 => ⟨⟨_, rfl, .inr ⟨t, h1, h2, h3⟩⟩⟩⟩
                | j + 2, e => simp at e
              refine ⟨L.T, fun H23 x23 T23 => ⟨⟨qq, hqq, rfl, _, rfl, hqb _ _ _ _ ty (hty H23 (x8.trans x23)) kty fun dd H24 e24 ndd hdd => ⟨eT, fun aE naE => ?_⟩⟩⟩⟩
              replace L := (L.xt x23 T23).same e24
              replace L := L.new (o := exT (.ref CT) (some dd) aE) naE
              have x9 : ExtN Hb (upd H24 aE (exT (.ref CT) (some dd) aE)) := (x8.trans x23).trans (ExtN.of (e24.trans (same_new naE)))
              have hd2 := (upd_ne (o := exT (.ref CT) (some dd) aE) (ne_of_none hdd naE)).trans hdd
              have ha2 : upd H24 aE (exT (.ref CT) (some dd) aE) aE = some (exT (.ref CT) (some dd) aE) := upd_same
              generalize upd H24 aE (exT (.ref CT) (some dd) aE) = H15 at L hd2 ha2 x9 ⊢
              have hx : ExC K H15 aE (.ref CT) := .dict xT ha2 hd2
              refine ws_val false (.or (a := false) (b := false) (fun Q' q => ⟨_, rfl, ⟨⟨aE, CT, "text ", rfl, hx, kT, eq_str (b := false) (by decide +kernel) ⟨_, rfl, q _ (Same.refl _)⟩⟩⟩⟩)
                (fun _ H3' e3' Q' q => ⟨_, rfl, ⟨⟨aE, CT, dd, _, _, rfl, xT, noT, e3' _ _ ha2, e3' _ _ hd2, rfl, ⟨_, rfl, by decide, eq_str (b := false) (by decide +kernel) ⟨_, rfl, q _ (Same.refl _)⟩⟩⟩⟩⟩)) (fun H16 e16 => iteF ?_)
              exact ⟨fb_mk, L.same e16, x9.trans (ExtN.of e16)⟩
            · clear L
              rintro σ H8 ⟨⟨v2, v3, v4, v5, v6, v7, v8, v10, v11, v12, v13, v14, v15, v16, v17, rfl⟩, L, _⟩
              clear hty kty hlf
              -- none
              refine ⟨_, rfl, ?_⟩
              refine tup_new (K := K) (ds := [.str "kind", .str "K"]) (.cons (.str _) (.cons (.str _) .nil)) (by show 2 ≤ 1000; decide) fun t1 H9 e9 d1 => ?_
              replace L := L.same e9
              refine tup_new (K := K) (ds := [.str "function"]) (.cons (.str _) .nil) (by show 1 ≤ 1000; decide) fun t2 H10 e10 d2 => ?_
              replace L := L.same e10
              replace d1 := d1.same e10
              refine lst_new (xs := [.non, .int 5, .str "f", t1, t2]) (by show 5 ≤ 1000; decide) fun pl npl => ?_
              have e11 := same_new (o := .lst [.non, .int 5, .str "f", t1, t2]) npl
              obtain ⟨_, plg, _⟩ := L.S.fresh6 npl
              replace L := L.same e11
              refine ⟨d, g, c0, _, pl, _, rfl, L.S, upd_same, plg, by show 0 < 5; decide, by show 5 ≤ 1000; decide, by omega, fun iy ox H12 hoy C12 S12 => ?_⟩
              have hbad : ∀ H13, ExtN H12 H13 → badD K H13 ox ∧ badDs K H13 ox := by
                have tkc := C12.tk (K := K) L.S
                have strB : ∀ (z : Str) (H' : Hp), badD K H' (.str z) := fun z H' => .inl ⟨"str", .base (.str _), by decide +kernel⟩
                match iy, hoy with
                | 0, e => cases Option.some.inj e; exact fun H13 x => ⟨.inl ⟨"NoneType", .base .non, by decide +kernel⟩, .inl ⟨"NoneType", .base .non, by decide +kernel⟩⟩
                | 1, e => cases Option.some.inj e; exact fun H13 x => ⟨.inl ⟨"int", .base (.int _), by decide +kernel⟩, .inl ⟨"int", .base (.int _), by decide +kernel⟩⟩
                | 2, e => cases Option.some.inj e; exact fun H13 x => ⟨strB _ _, .inl ⟨"str", .base (.str _), by decide +kernel⟩⟩
                | 3, e =>
                  cases Option.some.inj e
                  intro H13 x
                  obtain ⟨a1, xs1, rfl, hT1, hD1⟩ := (Dt.keep (xtk x) _ (Dt.keep tkc _ (d1.same e11))).tupI
                  obtain ⟨w1, q1, rfl, f1, hD1⟩ := hD1.consI
                  obtain ⟨w2, q2, rfl, f2, hD1⟩ := hD1.consI
                  obtain rfl := hD1.nilI
                  obtain rfl := f1.strI
                  obtain rfl := f2.strI
                  refine ⟨.inr ⟨a1, _, rfl, hT1, by show 2 ≤ 3; decide⟩, .inr ⟨a1, _, _, rfl, hT1, by show 1 ≤ 900; decide, fun y hy H' _ => ?_⟩⟩
                  simp only [List.mem_cons, List.not_mem_nil, or_false] at hy
                  rcases hy with rfl | rfl <;> exact strB _ _
                | 4, e =>
                  cases Option.some.inj e
                  intro H13 x
                  obtain ⟨a1, xs1, rfl, hT1, hD1⟩ := (Dt.keep (xtk x) _ (Dt.keep tkc _ (d2.same e11))).tupI
                  obtain ⟨w1, q1, rfl, f1, hD1⟩ := hD1.consI
                  obtain rfl := hD1.nilI
                  obtain rfl := f1.strI
                  refine ⟨.inr ⟨a1, _, rfl, hT1, by show 1 ≤ 3; decide⟩, .inr ⟨a1, _, _, rfl, hT1, by show 0 ≤ 900; decide, fun y hy H' _ => ?_⟩⟩
                  rw [List.mem_singleton.mp hy]
                  exact strB _ _
                | i + 5, e => simp at e
              replace L := L.ch C12 S12
              clear C12 S12 e11 npl plg d1 d2 hoy e9 e10
              refine ⟨L.T, fun H23 x23 T23 => ⟨⟨_, rfl, ⟨⟨_, rfl, .inr ⟨(hbad H23 x23).1, fun H24 e24 => ⟨eD, fun aE naE => ?_⟩⟩⟩⟩⟩⟩⟩
              replace L := ((L.xt x23 T23).same e24).new (o := exT (.ref CD) none aE) naE
              have x25 : ExtN H12 (upd H24 aE (exT (.ref CD) none aE)) := x23.trans (ExtN.of (e24.trans (same_new naE)))
              refine ⟨⟨aE, CD, "declaration ", rfl, .bare xD upd_same, kD, eq_str (b := false) (by decide +kernel) ⟨_, rfl, iteF ?_⟩⟩⟩
              generalize upd H24 aE (exT (.ref CD) none aE) = H25 at L x25 ⊢
              refine ⟨L.T, fun H26 x26 T26 => ⟨⟨_, rfl, ⟨⟨_, rfl, .inr ⟨(hbad H26 (x25.trans x26)).2, fun H27 e27 => ⟨eD, fun aE naE => ?_⟩⟩⟩⟩⟩⟩⟩
              replace L := ((L.xt x26 T26).same e27).new (o := exT (.ref CD) none aE) naE
              refine ⟨⟨aE, CD, "declaration ", rfl, .bare xD upd_same, kD, eq_str (b := false) (by decide +kernel) ⟨_, rfl, iteF ?_⟩⟩⟩
              exact ⟨fr6_mk, L.S.mono (by omega), L.T⟩
    · rintro σ H2 ⟨⟨v2, v3, v4, v5, v6, v7, v8, v9, v10, v11, v12, v13, v14, v15, v16, v17, rfl⟩, S, hT⟩
      refine ⟨⟨_, rfl, .inl ⟨"", rfl, by decide +kernel, ⟨by show (nearRs "").length ≤ 1000; decide +kernel, fun z hz => ?_⟩, ?_⟩⟩⟩
      · have : nearRs "" = [] := by decide +kernel
        rw [this] at hz
        cases hz
      · have e0 : nearRs "" = [] := by decide +kernel
        rw [e0, RdAll_end (by decide)]
        intro v H3 e3 dv
        obtain ⟨a1, xs1, rfl, hT1, hD1⟩ := dv.tupI
        obtain rfl := hD1.nilI
        exact tup_at (Nat.zero_le _) fun p np => ⟨a1, p, [], rfl, rfl, sqs hT1 (same_new np), SqT.of upd_same, k _⟩
end
end RS

/-! Facts6: what the head has to say, as tests of the part K. -/
namespace RS
open PySem PySem.Spec PyProof.Rows L2 LamX NdefX

def pairsB : List DictEntry → List (Str × Str) → Bool
  | [], [] => true
  | e :: es, p :: ps => Value.isStrOf p.1 e.key && ((match e.val with | .str y _ => decide (y = p.2) | _ => false) && pairsB es ps)
  | _, _ => false
def kdB (K : PySem.W.Frag) (a : Addr) (ps : List (Str × Str)) : Bool := match K.lookup a with
  | some ⟨_, _, .dict es _, _⟩ => pairsB es.toList ps
  | _ => false
def toK (ps : List (Str × Str)) : List (Key × V) := ps.map fun p => (.inr p.1, .str p.2)
theorem pairs_of {w : World} : ∀ {es : List DictEntry} {ps : List (Str × Str)}, pairsB es ps = true → ∃ vs : List (Key × Value), KV (toK ps) vs ∧ vs.map (·.1) = (toK ps).map (·.1) ∧ ∀ P : Program, PySem.Pairs (mixKind P w) es vs
  | [], [], _ => ⟨[], .nil, rfl, fun _ => .nil⟩
  | e :: es, p :: ps, h => by
    have h : (Value.isStrOf p.1 e.key && ((match e.val with | .str y _ => decide (y = p.2) | _ => false) && pairsB es ps)) = true := h
    rw [Bool.and_eq_true, Bool.and_eq_true] at h
    obtain ⟨h1, h2, h3⟩ := h
    obtain ⟨vs, v1, v2, v3⟩ := pairs_of (w := w) h3
    refine ⟨(.inr p.1, e.val) :: vs, .cons ⟨rfl, ?_⟩ v1, by show Sum.inr p.1 :: vs.map (·.1) = _; rw [v2]; rfl, fun P => .cons h1 rfl (v3 P)⟩
    split at h2
    · rename_i y t q
      have e2 := of_decide_eq_true h2
      show RelV (.str p.2) e.val
      rw [q, e2]
      exact ⟨t, rfl⟩
    · cases h2
  | [], _ :: _, h => by cases h
  | _ :: _, [], h => by cases h
theorem kd_of {K : PySem.W.Frag} {w : World} {a : Addr} {es : Array DictEntry} {n : Nat} {ps : List (Str × Str)} (D : KDict K w a es n) (h : kdB K a ps = true) (nd : ((toK ps).map (·.1)).Nodup) : KD K w a (toK ps) := by
  unfold kdB at h
  rw [D.at_] at h
  obtain ⟨vs, v1, v2, v3⟩ := pairs_of (w := w) h
  exact ⟨⟨es, n, D.at_, D.lit, vs, v1, by rw [v2]; exact nd, v3⟩, D.low⟩
theorem kdct_of {K : PySem.W.Frag} {w : World} {a : Addr} {es : Array DictEntry} {n : Nat} {kvs : List (Str × He.Dv)} {x y : Str} (D : KDict K w a es n) (h : He.valsB K a kvs = true) (m : (x, He.Dv.str y) ∈ kvs) : KDct K w a x (.str y) := by
  obtain ⟨u, e, r⟩ := He.valsB_ok h m
  exact ⟨es, n, u, D.at_, D.lit, e, r⟩
theorem ktup_of {K : PySem.W.Frag} {x : Str} {xs : List Str} (h : He.tupB K x (xs.map He.Dv.str) = true) : KTup K (He.ga K x) xs := fun H => by
  have := He.tupB_ok h H
  rw [List.map_map] at this
  exact this
def kind1 (K : PySem.W.Frag) (x : Str) (fl : Nat → Bool) : Bool := (PySem.W.kitOne K (.ref (He.ga K x)) (.ref (He.ga K "TongueError")) == some true) && ((PySem.W.kitOne K (.ref (He.ga K x)) (.type "ValueError") == some true) && kitB K (.ref (He.ga K x)) [He.ga K "BadTerm", He.ga K "BadDeclaration", He.ga K "BadText"] fl)
theorem kind_of {K : PySem.W.Frag} {x r : Str} {fl : Nat → Bool} (h : kind1 K x fl = true) (hr : r = (if fl 0 = true then "term " else "") ++ (if fl 1 = true then "declaration " else "") ++ (if fl 2 = true then "text " else "")) : KindOf K (He.ga K "TongueError") (He.ga K "BadTerm") (He.ga K "BadDeclaration") (He.ga K "BadText") (He.ga K x) r := by
  unfold kind1 at h
  simp only [Bool.and_eq_true, beq_iff_eq] at h
  obtain ⟨h1, h2, h3⟩ := h
  have k := kit_of h3
  exact ⟨h1, h2, fl 0, fl 1, fl 2, k 0 _ rfl, k 1 _ rfl, k 2 _ rfl, hr⟩
def sigP : List (Str × Str) := [("bound", "#"), ("local", "$"), ("hole", "?")]
def sigV : List (Str × He.Dv) := [("bound", .str "#"), ("local", .str "$"), ("hole", .str "?")]
theorem law_code {K : PySem.W.Frag} {x : Str} {st : Stmt} {fd : FuncData} (F : Fun K x x st (He.ga K x) fd) : FunD K x x st (He.ga K x) fd (.ref (He.cT K (x, none)).1) := by
  obtain ⟨oc, od, kV, doc, pm, an, cdv, ct, osl, e, lk, hcd⟩ := F.ex
  obtain ⟨c, rfl⟩ := He.codeIn_ref hcd
  have h : He.codeOf K (x, none) = c := He.codeOf_eq (p := (x, none)) lk (by rw [e])
  have h2 : (He.cT K (x, none)).1 = c := h
  rw [h2]
  exact ⟨⟨oc, od, kV, doc, pm, an, ct, osl, e, lk, hcd⟩, F.kp⟩
end RS

/-! End6: what the top has written, and the law. Printed by endgen6.py. -/
namespace RS
open PySem PySem.Spec PyProof.Rows L2 LamX NdefX

def faL : List He.Fa := ([.glo "TongueError", .glo "BadDeclaration", .glo "BadTerm", .glo "BadText", .glo "is_whole", .glo "is_number", .glo "is_word", .glo "is_small", .glo "is_capital", .glo "read_number", .glo "is_mark", .glo "own_parts", .glo "is_node", .glo "is_term", .glo "is_closed", .glo "is_tree", .glo "is_function", .glo "is_kind", .glo "is_declaration", .glo "leaf_text", .glo "core_words", .glo "term_text", .glo "read_leaf", .glo "read_words", .glo "read_term", .glo "tree_rows", .glo "declared_text", .glo "need_row", .glo "term_behind", .glo "read_kind"] : List He.Fa) ++ ([.glo "read_tree", .glo "read_function", .glo "read_from", .glo "read_declared", .glo "declarations_text", .glo "read_declarations", .glo "_law_begun", .glo "_law_blended", .glo "_law_draw", .glo "_law_pick", .glo "_law_caught", .glo "_law_rk_kind", .glo "_law_rt_term", .glo "_law_rt_parts", .glo "_law_rt_leaves", .glo "_law_rt_with", .glo "_law_rt_tree", .glo "_law_rt_closed", .glo "_law_rt_declaration", .glo "_law_k06_words", .glo "_law_k06_tree", .glo "_law_k06_rows", .glo "law", .free "abs", .free "all", .free "bool", .free "int", .free "isinstance", .free "len", .free "list"] : List He.Fa) ++ ([.free "min", .free "range", .free "repr", .free "str", .free "tuple", .free "super", .free "ValueError", .glo "KEPT", .glo "MARKS", .glo "SIGNS", .str "SMALL" cs_SMALL, .str "CAPITAL" cs_CAPITAL, .str "DIGITS" cs_DIGITS, .int "MOST_LETTERS" ci_MOST_LETTERS, .int "MOST_COUNT" ci_MOST_COUNT, .int "MOST_NUMBER" ci_MOST_NUMBER, .int "LEVELS" ci_LEVELS, .int "MOST_PLACES" ci_MOST_PLACES, .int "MOST_ARGUMENTS" ci_MOST_ARGUMENTS, .exc "BadTerm", .exc "BadDeclaration", .exm "BadDeclaration" "TongueError" true, .exm "BadText" "TongueError" true, .exm "BadText" "BadText" true] : List He.Fa)
def fnL : List He.DefD := [dfd "is_whole" s_is_whole, dfd "is_number" s_is_number, dfd "is_word" s_is_word, dfd "is_small" s_is_small, dfd "is_capital" s_is_capital, dfd "read_number" s_read_number, dfd "is_mark" s_is_mark, dfd "own_parts" s_own_parts, dfd "is_node" s_is_node, dfd "is_term" s_is_term, dfd "is_closed" s_is_closed, dfd "is_tree" s_is_tree, dfd "is_function" s_is_function, dfd "is_kind" s_is_kind, dfd "is_declaration" s_is_declaration, dfd "leaf_text" s_leaf_text, dfd "core_words" s_core_words, dfd "term_text" s_term_text, dfd "read_leaf" s_read_leaf, dfd "read_words" s_read_words, dfd "read_term" s_read_term, dfd "tree_rows" s_tree_rows, dfd "declared_text" s_declared_text, dfd "need_row" s_need_row, dfd "term_behind" s_term_behind, dfd "read_kind" s_read_kind, dfd "read_tree" s_read_tree, dfd "read_function" s_read_function, dfd "read_from" s_read_from, dfd "read_declared" s_read_declared, dfd "declarations_text" s_declarations_text, dfd "read_declarations" s_read_declarations, dfd "_law_begun" s_law_begun, dfd "_law_blended" s_law_blended, dfd "_law_draw" s_law_draw, dfd "_law_pick" s_law_pick, dfd "_law_caught" s_law_caught, dfd "_law_rk_kind" s_law_rk_kind, dfd "_law_rt_term" s_law_rt_term, dfd "_law_rt_parts" s_law_rt_parts, dfd "_law_rt_leaves" s_law_rt_leaves, dfd "_law_rt_with" s_law_rt_with, dfd "_law_rt_tree" s_law_rt_tree, dfd "_law_rt_closed" s_law_rt_closed, dfd "_law_rt_declaration" s_law_rt_declaration, dfd "_law_k06_words" s_law_k06_words, dfd "_law_k06_tree" s_law_k06_tree, dfd "_law_k06_rows" s_law_k06_rows, dfd "law" s_law]
def inL : List IniD := [⟨"BadText", "BadText.__init__", iniS 16⟩]
def tsL : List He.Tab := [(fun K => He.ga K "SIGNS", ["bound", "local", "hole"])]
def tfL : List He.Defn := [("law", none)]
def exB (P : Program) (K : PySem.W.Frag) : Bool := exkB K (He.ga K "BadDeclaration") && (exkB K (He.ga K "BadText") && (supB P K (He.ga K "BadText") (iniC K "BadText") (iniO K "BadText") && (oexB K (He.ga K "BadText") && ((PySem.W.findIn K (.ref (He.ga K "BadText")) "at" == some none) && (kind1 K "BadDeclaration" (fun j => j == 1) && (kind1 K "BadText" (fun j => j == 2) && (kdB K (He.ga K "SIGNS") sigP && (He.valsB K (He.ga K "SIGNS") sigV && (He.tupB K "KEPT" (keptL.map He.Dv.str) && (He.tupB K "MARKS" (markL.map He.Dv.str) && ((PySem.W.subIn K (.ref (He.ga K "BadText")) (.type "BaseException") == some true) && ((PySem.W.typeIn K (.ref (He.ga K "BadText")) == some (.type "type"))))))))))))))
theorem all_mk {P : Program} {w : World} {K : PySem.W.Frag} {h h2 : Heap} {mg : Str → Option Value} {fa : Addr} (X : K.In h) (G : h.Ns mainGlobals mg) (hfa : mg "law" = some (.ref fa)) (c : SaysY faL fnL tsL tfL (exB P) inL w h2 K) :
    ∃ fd : FuncData, (∀ (s : Shared) (v : Value), BindsTo s fd ⟨[v], []⟩ [("script", v)]) ∧ ∀ base : Heap, K.In base → base.Ns mainGlobals mg → TabB base mg (He.cT K ("law", none)).1 (He.cT K ("law", none)).2 → FnG P w K mg base 209 fa fd ["script"] (spLaw6 K (He.cT K ("law", none)).2) := by
  obtain ⟨B0, z0⟩ := Bool.and_eq_true_iff.mp c.more
  obtain ⟨B1, z1⟩ := Bool.and_eq_true_iff.mp z0
  obtain ⟨B2, z2⟩ := Bool.and_eq_true_iff.mp z1
  obtain ⟨B3, z3⟩ := Bool.and_eq_true_iff.mp z2
  obtain ⟨B4, z4⟩ := Bool.and_eq_true_iff.mp z3
  obtain ⟨B5, z5⟩ := Bool.and_eq_true_iff.mp z4
  obtain ⟨B6, z6⟩ := Bool.and_eq_true_iff.mp z5
  obtain ⟨B7, z7⟩ := Bool.and_eq_true_iff.mp z6
  obtain ⟨B8, z8⟩ := Bool.and_eq_true_iff.mp z7
  obtain ⟨B9, z9⟩ := Bool.and_eq_true_iff.mp z8
  obtain ⟨B10, z10⟩ := Bool.and_eq_true_iff.mp z9
  obtain ⟨B11, z11⟩ := Bool.and_eq_true_iff.mp z10
  have B12 := z11
  replace B4 := beq_iff_eq.mp B4
  replace B11 := beq_iff_eq.mp B11
  replace B12 := beq_iff_eq.mp B12
  have g_TongueError := He.glo_ok X G (c.fact 0 (f := .glo "TongueError") rfl)
  have g_BadDeclaration := He.glo_ok X G (c.fact 1 (f := .glo "BadDeclaration") rfl)
  have g_BadTerm := He.glo_ok X G (c.fact 2 (f := .glo "BadTerm") rfl)
  have g_BadText := He.glo_ok X G (c.fact 3 (f := .glo "BadText") rfl)
  have m_is_whole := He.glo_ok X G (c.fact 4 (f := .glo "is_whole") rfl)
  have m_is_number := He.glo_ok X G (c.fact 5 (f := .glo "is_number") rfl)
  have m_is_word := He.glo_ok X G (c.fact 6 (f := .glo "is_word") rfl)
  have m_is_small := He.glo_ok X G (c.fact 7 (f := .glo "is_small") rfl)
  have m_is_capital := He.glo_ok X G (c.fact 8 (f := .glo "is_capital") rfl)
  have m_read_number := He.glo_ok X G (c.fact 9 (f := .glo "read_number") rfl)
  have m_is_mark := He.glo_ok X G (c.fact 10 (f := .glo "is_mark") rfl)
  have m_own_parts := He.glo_ok X G (c.fact 11 (f := .glo "own_parts") rfl)
  have m_is_node := He.glo_ok X G (c.fact 12 (f := .glo "is_node") rfl)
  have m_is_term := He.glo_ok X G (c.fact 13 (f := .glo "is_term") rfl)
  have m_is_closed := He.glo_ok X G (c.fact 14 (f := .glo "is_closed") rfl)
  have m_is_tree := He.glo_ok X G (c.fact 15 (f := .glo "is_tree") rfl)
  have m_is_function := He.glo_ok X G (c.fact 16 (f := .glo "is_function") rfl)
  have m_is_kind := He.glo_ok X G (c.fact 17 (f := .glo "is_kind") rfl)
  have m_is_declaration := He.glo_ok X G (c.fact 18 (f := .glo "is_declaration") rfl)
  have m_leaf_text := He.glo_ok X G (c.fact 19 (f := .glo "leaf_text") rfl)
  have m_core_words := He.glo_ok X G (c.fact 20 (f := .glo "core_words") rfl)
  have m_term_text := He.glo_ok X G (c.fact 21 (f := .glo "term_text") rfl)
  have m_read_leaf := He.glo_ok X G (c.fact 22 (f := .glo "read_leaf") rfl)
  have m_read_words := He.glo_ok X G (c.fact 23 (f := .glo "read_words") rfl)
  have m_read_term := He.glo_ok X G (c.fact 24 (f := .glo "read_term") rfl)
  have m_tree_rows := He.glo_ok X G (c.fact 25 (f := .glo "tree_rows") rfl)
  have m_declared_text := He.glo_ok X G (c.fact 26 (f := .glo "declared_text") rfl)
  have m_need_row := He.glo_ok X G (c.fact 27 (f := .glo "need_row") rfl)
  have m_term_behind := He.glo_ok X G (c.fact 28 (f := .glo "term_behind") rfl)
  have m_read_kind := He.glo_ok X G (c.fact 29 (f := .glo "read_kind") rfl)
  have m_read_tree := He.glo_ok X G (c.fact 30 (f := .glo "read_tree") rfl)
  have m_read_function := He.glo_ok X G (c.fact 31 (f := .glo "read_function") rfl)
  have m_read_from := He.glo_ok X G (c.fact 32 (f := .glo "read_from") rfl)
  have m_read_declared := He.glo_ok X G (c.fact 33 (f := .glo "read_declared") rfl)
  have m_declarations_text := He.glo_ok X G (c.fact 34 (f := .glo "declarations_text") rfl)
  have m_read_declarations := He.glo_ok X G (c.fact 35 (f := .glo "read_declarations") rfl)
  have m__law_begun := He.glo_ok X G (c.fact 36 (f := .glo "_law_begun") rfl)
  have m__law_blended := He.glo_ok X G (c.fact 37 (f := .glo "_law_blended") rfl)
  have m__law_draw := He.glo_ok X G (c.fact 38 (f := .glo "_law_draw") rfl)
  have m__law_pick := He.glo_ok X G (c.fact 39 (f := .glo "_law_pick") rfl)
  have m__law_caught := He.glo_ok X G (c.fact 40 (f := .glo "_law_caught") rfl)
  have m__law_rk_kind := He.glo_ok X G (c.fact 41 (f := .glo "_law_rk_kind") rfl)
  have m__law_rt_term := He.glo_ok X G (c.fact 42 (f := .glo "_law_rt_term") rfl)
  have m__law_rt_parts := He.glo_ok X G (c.fact 43 (f := .glo "_law_rt_parts") rfl)
  have m__law_rt_leaves := He.glo_ok X G (c.fact 44 (f := .glo "_law_rt_leaves") rfl)
  have m__law_rt_with := He.glo_ok X G (c.fact 45 (f := .glo "_law_rt_with") rfl)
  have m__law_rt_tree := He.glo_ok X G (c.fact 46 (f := .glo "_law_rt_tree") rfl)
  have m__law_rt_closed := He.glo_ok X G (c.fact 47 (f := .glo "_law_rt_closed") rfl)
  have m__law_rt_declaration := He.glo_ok X G (c.fact 48 (f := .glo "_law_rt_declaration") rfl)
  have m__law_k06_words := He.glo_ok X G (c.fact 49 (f := .glo "_law_k06_words") rfl)
  have m__law_k06_tree := He.glo_ok X G (c.fact 50 (f := .glo "_law_k06_tree") rfl)
  have m__law_k06_rows := He.glo_ok X G (c.fact 51 (f := .glo "_law_k06_rows") rfl)
  have m_law := He.glo_ok X G (c.fact 52 (f := .glo "law") rfl)
  have n_abs := He.free_ok X G (c.fact 53 (f := .free "abs") rfl)
  have n_all := He.free_ok X G (c.fact 54 (f := .free "all") rfl)
  have n_bool := He.free_ok X G (c.fact 55 (f := .free "bool") rfl)
  have n_int := He.free_ok X G (c.fact 56 (f := .free "int") rfl)
  have n_isinstance := He.free_ok X G (c.fact 57 (f := .free "isinstance") rfl)
  have n_len := He.free_ok X G (c.fact 58 (f := .free "len") rfl)
  have n_list := He.free_ok X G (c.fact 59 (f := .free "list") rfl)
  have n_min := He.free_ok X G (c.fact 60 (f := .free "min") rfl)
  have n_range := He.free_ok X G (c.fact 61 (f := .free "range") rfl)
  have n_repr := He.free_ok X G (c.fact 62 (f := .free "repr") rfl)
  have n_str := He.free_ok X G (c.fact 63 (f := .free "str") rfl)
  have n_tuple := He.free_ok X G (c.fact 64 (f := .free "tuple") rfl)
  have n_super := He.free_ok X G (c.fact 65 (f := .free "super") rfl)
  have n_ValueError := He.free_ok X G (c.fact 66 (f := .free "ValueError") rfl)
  have g_KEPT := He.glo_ok X G (c.fact 67 (f := .glo "KEPT") rfl)
  have g_MARKS := He.glo_ok X G (c.fact 68 (f := .glo "MARKS") rfl)
  have g_SIGNS := He.glo_ok X G (c.fact 69 (f := .glo "SIGNS") rfl)
  obtain ⟨t_SMALL, g_SMALL⟩ := He.str_ok X G (c.fact 70 (f := .str "SMALL" cs_SMALL) rfl)
  obtain ⟨t_CAPITAL, g_CAPITAL⟩ := He.str_ok X G (c.fact 71 (f := .str "CAPITAL" cs_CAPITAL) rfl)
  obtain ⟨t_DIGITS, g_DIGITS⟩ := He.str_ok X G (c.fact 72 (f := .str "DIGITS" cs_DIGITS) rfl)
  obtain ⟨t_MOST_LETTERS, g_MOST_LETTERS⟩ := He.int_ok X G (c.fact 73 (f := .int "MOST_LETTERS" ci_MOST_LETTERS) rfl)
  obtain ⟨t_MOST_COUNT, g_MOST_COUNT⟩ := He.int_ok X G (c.fact 74 (f := .int "MOST_COUNT" ci_MOST_COUNT) rfl)
  obtain ⟨t_MOST_NUMBER, g_MOST_NUMBER⟩ := He.int_ok X G (c.fact 75 (f := .int "MOST_NUMBER" ci_MOST_NUMBER) rfl)
  obtain ⟨t_LEVELS, g_LEVELS⟩ := He.int_ok X G (c.fact 76 (f := .int "LEVELS" ci_LEVELS) rfl)
  obtain ⟨t_MOST_PLACES, g_MOST_PLACES⟩ := He.int_ok X G (c.fact 77 (f := .int "MOST_PLACES" ci_MOST_PLACES) rfl)
  obtain ⟨t_MOST_ARGUMENTS, g_MOST_ARGUMENTS⟩ := He.int_ok X G (c.fact 78 (f := .int "MOST_ARGUMENTS" ci_MOST_ARGUMENTS) rfl)
  obtain ⟨x1_BadTerm, x2_BadTerm, x3_BadTerm, x4_BadTerm⟩ := He.exc_ok (c.fact 79 (f := .exc "BadTerm") rfl)
  obtain ⟨x1_BadDeclaration, x2_BadDeclaration, x3_BadDeclaration, x4_BadDeclaration⟩ := He.exc_ok (c.fact 80 (f := .exc "BadDeclaration") rfl)
  have e_BadDeclaration_TongueError := He.exm_ok (c.fact 81 (f := .exm "BadDeclaration" "TongueError" true) rfl)
  have e_BadText_TongueError := He.exm_ok (c.fact 82 (f := .exm "BadText" "TongueError" true) rfl)
  have e_BadText_BadText := He.exm_ok (c.fact 83 (f := .exm "BadText" "BadText" true) rfl)
  obtain ⟨fd_is_whole, Q_is_whole⟩ := c.t.d.def_ 0 (d := dfd "is_whole" s_is_whole) rfl
  have F_is_whole : Fun K "is_whole" "is_whole" s_is_whole (He.ga K "is_whole") fd_is_whole := fun_of Q_is_whole
  have k_is_whole := F_is_whole.kp
  have b_is_whole := F_is_whole.binds (ps := ["value"]) fun _ _ _ _ _ _ us hl => match us, hl with | [_], _ => rfl
  obtain ⟨fd_is_number, Q_is_number⟩ := c.t.d.def_ 1 (d := dfd "is_number" s_is_number) rfl
  have F_is_number : Fun K "is_number" "is_number" s_is_number (He.ga K "is_number") fd_is_number := fun_of Q_is_number
  have k_is_number := F_is_number.kp
  have b_is_number := F_is_number.binds (ps := ["value", "least", "most"]) fun _ _ _ _ _ _ us hl => match us, hl with | [_, _, _], _ => rfl
  obtain ⟨fd_is_word, Q_is_word⟩ := c.t.d.def_ 2 (d := dfd "is_word" s_is_word) rfl
  have F_is_word : Fun K "is_word" "is_word" s_is_word (He.ga K "is_word") fd_is_word := fun_of Q_is_word
  have k_is_word := F_is_word.kp
  have b_is_word := F_is_word.binds (ps := ["value"]) fun _ _ _ _ _ _ us hl => match us, hl with | [_], _ => rfl
  obtain ⟨fd_is_small, Q_is_small⟩ := c.t.d.def_ 3 (d := dfd "is_small" s_is_small) rfl
  have F_is_small : Fun K "is_small" "is_small" s_is_small (He.ga K "is_small") fd_is_small := fun_of Q_is_small
  have k_is_small := F_is_small.kp
  have b_is_small := F_is_small.binds (ps := ["value"]) fun _ _ _ _ _ _ us hl => match us, hl with | [_], _ => rfl
  obtain ⟨fd_is_capital, Q_is_capital⟩ := c.t.d.def_ 4 (d := dfd "is_capital" s_is_capital) rfl
  have F_is_capital : Fun K "is_capital" "is_capital" s_is_capital (He.ga K "is_capital") fd_is_capital := fun_of Q_is_capital
  have k_is_capital := F_is_capital.kp
  have b_is_capital := F_is_capital.binds (ps := ["value"]) fun _ _ _ _ _ _ us hl => match us, hl with | [_], _ => rfl
  obtain ⟨fd_read_number, Q_read_number⟩ := c.t.d.def_ 5 (d := dfd "read_number" s_read_number) rfl
  have F_read_number : Fun K "read_number" "read_number" s_read_number (He.ga K "read_number") fd_read_number := fun_of Q_read_number
  have k_read_number := F_read_number.kp
  have b_read_number := F_read_number.binds (ps := ["word"]) fun _ _ _ _ _ _ us hl => match us, hl with | [_], _ => rfl
  obtain ⟨fd_is_mark, Q_is_mark⟩ := c.t.d.def_ 6 (d := dfd "is_mark" s_is_mark) rfl
  have F_is_mark : Fun K "is_mark" "is_mark" s_is_mark (He.ga K "is_mark") fd_is_mark := fun_of Q_is_mark
  have k_is_mark := F_is_mark.kp
  have b_is_mark := F_is_mark.binds (ps := ["value"]) fun _ _ _ _ _ _ us hl => match us, hl with | [_], _ => rfl
  obtain ⟨fd_own_parts, Q_own_parts⟩ := c.t.d.def_ 7 (d := dfd "own_parts" s_own_parts) rfl
  have F_own_parts : Fun K "own_parts" "own_parts" s_own_parts (He.ga K "own_parts") fd_own_parts := fun_of Q_own_parts
  have k_own_parts := F_own_parts.kp
  have b_own_parts := F_own_parts.binds (ps := ["term"]) fun _ _ _ _ _ _ us hl => match us, hl with | [_], _ => rfl
  obtain ⟨fd_is_node, Q_is_node⟩ := c.t.d.def_ 8 (d := dfd "is_node" s_is_node) rfl
  have F_is_node : Fun K "is_node" "is_node" s_is_node (He.ga K "is_node") fd_is_node := fun_of Q_is_node
  have k_is_node := F_is_node.kp
  have b_is_node := F_is_node.binds (ps := ["value"]) fun _ _ _ _ _ _ us hl => match us, hl with | [_], _ => rfl
  obtain ⟨fd_is_term, Q_is_term⟩ := c.t.d.def_ 9 (d := dfd "is_term" s_is_term) rfl
  have F_is_term : Fun K "is_term" "is_term" s_is_term (He.ga K "is_term") fd_is_term := fun_of Q_is_term
  have k_is_term := F_is_term.kp
  have b_is_term := F_is_term.binds (ps := ["value"]) fun _ _ _ _ _ _ us hl => match us, hl with | [_], _ => rfl
  obtain ⟨fd_is_closed, Q_is_closed⟩ := c.t.d.def_ 10 (d := dfd "is_closed" s_is_closed) rfl
  have F_is_closed : Fun K "is_closed" "is_closed" s_is_closed (He.ga K "is_closed") fd_is_closed := fun_of Q_is_closed
  have k_is_closed := F_is_closed.kp
  have b_is_closed := F_is_closed.binds (ps := ["term"]) fun _ _ _ _ _ _ us hl => match us, hl with | [_], _ => rfl
  obtain ⟨fd_is_tree, Q_is_tree⟩ := c.t.d.def_ 11 (d := dfd "is_tree" s_is_tree) rfl
  have F_is_tree : Fun K "is_tree" "is_tree" s_is_tree (He.ga K "is_tree") fd_is_tree := fun_of Q_is_tree
  have k_is_tree := F_is_tree.kp
  have b_is_tree := F_is_tree.binds (ps := ["value"]) fun _ _ _ _ _ _ us hl => match us, hl with | [_], _ => rfl
  obtain ⟨fd_is_function, Q_is_function⟩ := c.t.d.def_ 12 (d := dfd "is_function" s_is_function) rfl
  have F_is_function : Fun K "is_function" "is_function" s_is_function (He.ga K "is_function") fd_is_function := fun_of Q_is_function
  have k_is_function := F_is_function.kp
  have b_is_function := F_is_function.binds (ps := ["value"]) fun _ _ _ _ _ _ us hl => match us, hl with | [_], _ => rfl
  obtain ⟨fd_is_kind, Q_is_kind⟩ := c.t.d.def_ 13 (d := dfd "is_kind" s_is_kind) rfl
  have F_is_kind : Fun K "is_kind" "is_kind" s_is_kind (He.ga K "is_kind") fd_is_kind := fun_of Q_is_kind
  have k_is_kind := F_is_kind.kp
  have b_is_kind := F_is_kind.binds (ps := ["value"]) fun _ _ _ _ _ _ us hl => match us, hl with | [_], _ => rfl
  obtain ⟨fd_is_declaration, Q_is_declaration⟩ := c.t.d.def_ 14 (d := dfd "is_declaration" s_is_declaration) rfl
  have F_is_declaration : Fun K "is_declaration" "is_declaration" s_is_declaration (He.ga K "is_declaration") fd_is_declaration := fun_of Q_is_declaration
  have k_is_declaration := F_is_declaration.kp
  have b_is_declaration := F_is_declaration.binds (ps := ["value"]) fun _ _ _ _ _ _ us hl => match us, hl with | [_], _ => rfl
  obtain ⟨fd_leaf_text, Q_leaf_text⟩ := c.t.d.def_ 15 (d := dfd "leaf_text" s_leaf_text) rfl
  have F_leaf_text : Fun K "leaf_text" "leaf_text" s_leaf_text (He.ga K "leaf_text") fd_leaf_text := fun_of Q_leaf_text
  have k_leaf_text := F_leaf_text.kp
  have b_leaf_text := F_leaf_text.binds (ps := ["term"]) fun _ _ _ _ _ _ us hl => match us, hl with | [_], _ => rfl
  obtain ⟨fd_core_words, Q_core_words⟩ := c.t.d.def_ 16 (d := dfd "core_words" s_core_words) rfl
  have F_core_words : Fun K "core_words" "core_words" s_core_words (He.ga K "core_words") fd_core_words := fun_of Q_core_words
  have k_core_words := F_core_words.kp
  have b_core_words := F_core_words.binds (ps := ["term"]) fun _ _ _ _ _ _ us hl => match us, hl with | [_], _ => rfl
  obtain ⟨fd_term_text, Q_term_text⟩ := c.t.d.def_ 17 (d := dfd "term_text" s_term_text) rfl
  have F_term_text : Fun K "term_text" "term_text" s_term_text (He.ga K "term_text") fd_term_text := fun_of Q_term_text
  have k_term_text := F_term_text.kp
  have b_term_text := F_term_text.binds (ps := ["term"]) fun _ _ _ _ _ _ us hl => match us, hl with | [_], _ => rfl
  obtain ⟨fd_read_leaf, Q_read_leaf⟩ := c.t.d.def_ 18 (d := dfd "read_leaf" s_read_leaf) rfl
  have F_read_leaf : Fun K "read_leaf" "read_leaf" s_read_leaf (He.ga K "read_leaf") fd_read_leaf := fun_of Q_read_leaf
  have k_read_leaf := F_read_leaf.kp
  have b_read_leaf := F_read_leaf.binds (ps := ["word"]) fun _ _ _ _ _ _ us hl => match us, hl with | [_], _ => rfl
  obtain ⟨fd_read_words, Q_read_words⟩ := c.t.d.def_ 19 (d := dfd "read_words" s_read_words) rfl
  have F_read_words : Fun K "read_words" "read_words" s_read_words (He.ga K "read_words") fd_read_words := fun_of Q_read_words
  have k_read_words := F_read_words.kp
  have b_read_words := F_read_words.binds (ps := ["words", "at"]) fun _ _ _ _ _ _ us hl => match us, hl with | [_, _], _ => rfl
  obtain ⟨fd_read_term, Q_read_term⟩ := c.t.d.def_ 20 (d := dfd "read_term" s_read_term) rfl
  have F_read_term : Fun K "read_term" "read_term" s_read_term (He.ga K "read_term") fd_read_term := fun_of Q_read_term
  have k_read_term := F_read_term.kp
  have b_read_term := F_read_term.binds (ps := ["text"]) fun _ _ _ _ _ _ us hl => match us, hl with | [_], _ => rfl
  obtain ⟨fd_tree_rows, Q_tree_rows⟩ := c.t.d.def_ 21 (d := dfd "tree_rows" s_tree_rows) rfl
  have F_tree_rows : Fun K "tree_rows" "tree_rows" s_tree_rows (He.ga K "tree_rows") fd_tree_rows := fun_of Q_tree_rows
  have k_tree_rows := F_tree_rows.kp
  have b_tree_rows := F_tree_rows.binds (ps := ["tree"]) fun _ _ _ _ _ _ us hl => match us, hl with | [_], _ => rfl
  obtain ⟨fd_declared_text, Q_declared_text⟩ := c.t.d.def_ 22 (d := dfd "declared_text" s_declared_text) rfl
  have F_declared_text : Fun K "declared_text" "declared_text" s_declared_text (He.ga K "declared_text") fd_declared_text := fun_of Q_declared_text
  have k_declared_text := F_declared_text.kp
  have b_declared_text := F_declared_text.binds (ps := ["declaration"]) fun _ _ _ _ _ _ us hl => match us, hl with | [_], _ => rfl
  obtain ⟨fd_need_row, Q_need_row⟩ := c.t.d.def_ 23 (d := dfd "need_row" s_need_row) rfl
  have F_need_row : Fun K "need_row" "need_row" s_need_row (He.ga K "need_row") fd_need_row := fun_of Q_need_row
  have k_need_row := F_need_row.kp
  have b_need_row := F_need_row.binds (ps := ["right", "row"]) fun _ _ _ _ _ _ us hl => match us, hl with | [_, _], _ => rfl
  obtain ⟨fd_term_behind, Q_term_behind⟩ := c.t.d.def_ 24 (d := dfd "term_behind" s_term_behind) rfl
  have F_term_behind : Fun K "term_behind" "term_behind" s_term_behind (He.ga K "term_behind") fd_term_behind := fun_of Q_term_behind
  have k_term_behind := F_term_behind.kp
  have b_term_behind := F_term_behind.binds (ps := ["rows", "row", "words_ahead"]) fun _ _ _ _ _ _ us hl => match us, hl with | [_, _, _], _ => rfl
  obtain ⟨fd_read_kind, Q_read_kind⟩ := c.t.d.def_ 25 (d := dfd "read_kind" s_read_kind) rfl
  have F_read_kind : Fun K "read_kind" "read_kind" s_read_kind (He.ga K "read_kind") fd_read_kind := fun_of Q_read_kind
  have k_read_kind := F_read_kind.kp
  have b_read_kind := F_read_kind.binds (ps := ["rows", "row"]) fun _ _ _ _ _ _ us hl => match us, hl with | [_, _], _ => rfl
  obtain ⟨fd_read_tree, Q_read_tree⟩ := c.t.d.def_ 26 (d := dfd "read_tree" s_read_tree) rfl
  have F_read_tree : Fun K "read_tree" "read_tree" s_read_tree (He.ga K "read_tree") fd_read_tree := fun_of Q_read_tree
  have k_read_tree := F_read_tree.kp
  have b_read_tree := F_read_tree.binds (ps := ["rows", "row"]) fun _ _ _ _ _ _ us hl => match us, hl with | [_, _], _ => rfl
  obtain ⟨fd_read_function, Q_read_function⟩ := c.t.d.def_ 27 (d := dfd "read_function" s_read_function) rfl
  have F_read_function : Fun K "read_function" "read_function" s_read_function (He.ga K "read_function") fd_read_function := fun_of Q_read_function
  have k_read_function := F_read_function.kp
  have b_read_function := F_read_function.binds (ps := ["rows", "row"]) fun _ _ _ _ _ _ us hl => match us, hl with | [_, _], _ => rfl
  obtain ⟨fd_read_from, Q_read_from⟩ := c.t.d.def_ 28 (d := dfd "read_from" s_read_from) rfl
  have F_read_from : Fun K "read_from" "read_from" s_read_from (He.ga K "read_from") fd_read_from := fun_of Q_read_from
  have k_read_from := F_read_from.kp
  have b_read_from := F_read_from.binds (ps := ["rows", "row"]) fun _ _ _ _ _ _ us hl => match us, hl with | [_, _], _ => rfl
  obtain ⟨fd_read_declared, Q_read_declared⟩ := c.t.d.def_ 29 (d := dfd "read_declared" s_read_declared) rfl
  have F_read_declared : Fun K "read_declared" "read_declared" s_read_declared (He.ga K "read_declared") fd_read_declared := fun_of Q_read_declared
  have k_read_declared := F_read_declared.kp
  have b_read_declared := F_read_declared.binds (ps := ["text"]) fun _ _ _ _ _ _ us hl => match us, hl with | [_], _ => rfl
  obtain ⟨fd_declarations_text, Q_declarations_text⟩ := c.t.d.def_ 30 (d := dfd "declarations_text" s_declarations_text) rfl
  have F_declarations_text : Fun K "declarations_text" "declarations_text" s_declarations_text (He.ga K "declarations_text") fd_declarations_text := fun_of Q_declarations_text
  have k_declarations_text := F_declarations_text.kp
  have b_declarations_text := F_declarations_text.binds (ps := ["declarations"]) fun _ _ _ _ _ _ us hl => match us, hl with | [_], _ => rfl
  obtain ⟨fd_read_declarations, Q_read_declarations⟩ := c.t.d.def_ 31 (d := dfd "read_declarations" s_read_declarations) rfl
  have F_read_declarations : Fun K "read_declarations" "read_declarations" s_read_declarations (He.ga K "read_declarations") fd_read_declarations := fun_of Q_read_declarations
  have k_read_declarations := F_read_declarations.kp
  have b_read_declarations := F_read_declarations.binds (ps := ["text"]) fun _ _ _ _ _ _ us hl => match us, hl with | [_], _ => rfl
  obtain ⟨fd__law_begun, Q__law_begun⟩ := c.t.d.def_ 32 (d := dfd "_law_begun" s_law_begun) rfl
  have F__law_begun : Fun K "_law_begun" "_law_begun" s_law_begun (He.ga K "_law_begun") fd__law_begun := fun_of Q__law_begun
  have k__law_begun := F__law_begun.kp
  have b__law_begun := F__law_begun.binds (ps := ["script"]) fun _ _ _ _ _ _ us hl => match us, hl with | [_], _ => rfl
  obtain ⟨fd__law_blended, Q__law_blended⟩ := c.t.d.def_ 33 (d := dfd "_law_blended" s_law_blended) rfl
  have F__law_blended : Fun K "_law_blended" "_law_blended" s_law_blended (He.ga K "_law_blended") fd__law_blended := fun_of Q__law_blended
  have k__law_blended := F__law_blended.kp
  have b__law_blended := F__law_blended.binds (ps := ["state"]) fun _ _ _ _ _ _ us hl => match us, hl with | [_], _ => rfl
  obtain ⟨fd__law_draw, Q__law_draw⟩ := c.t.d.def_ 34 (d := dfd "_law_draw" s_law_draw) rfl
  have F__law_draw : Fun K "_law_draw" "_law_draw" s_law_draw (He.ga K "_law_draw") fd__law_draw := fun_of Q__law_draw
  have k__law_draw := F__law_draw.kp
  have b__law_draw := F__law_draw.binds (ps := ["state", "size_here"]) fun _ _ _ _ _ _ us hl => match us, hl with | [_, _], _ => rfl
  obtain ⟨fd__law_pick, Q__law_pick⟩ := c.t.d.def_ 35 (d := dfd "_law_pick" s_law_pick) rfl
  have F__law_pick : Fun K "_law_pick" "_law_pick" s_law_pick (He.ga K "_law_pick") fd__law_pick := fun_of Q__law_pick
  have k__law_pick := F__law_pick.kp
  have b__law_pick := F__law_pick.binds (ps := ["state", "several"]) fun _ _ _ _ _ _ us hl => match us, hl with | [_, _], _ => rfl
  obtain ⟨fd__law_caught, Q__law_caught⟩ := c.t.d.def_ 36 (d := dfd "_law_caught" s_law_caught) rfl
  have F__law_caught : Fun K "_law_caught" "_law_caught" s_law_caught (He.ga K "_law_caught") fd__law_caught := fun_of Q__law_caught
  have k__law_caught := F__law_caught.kp
  have b__law_caught := F__law_caught.binds (ps := ["work"]) fun _ _ _ _ _ _ us hl => match us, hl with | [_], _ => rfl
  obtain ⟨fd__law_rk_kind, Q__law_rk_kind⟩ := c.t.d.def_ 37 (d := dfd "_law_rk_kind" s_law_rk_kind) rfl
  have F__law_rk_kind : Fun K "_law_rk_kind" "_law_rk_kind" s_law_rk_kind (He.ga K "_law_rk_kind") fd__law_rk_kind := fun_of Q__law_rk_kind
  have k__law_rk_kind := F__law_rk_kind.kp
  have b__law_rk_kind := F__law_rk_kind.binds (ps := ["error"]) fun _ _ _ _ _ _ us hl => match us, hl with | [_], _ => rfl
  obtain ⟨fd__law_rt_term, Q__law_rt_term⟩ := c.t.d.def_ 38 (d := dfd "_law_rt_term" s_law_rt_term) rfl
  have F__law_rt_term : Fun K "_law_rt_term" "_law_rt_term" s_law_rt_term (He.ga K "_law_rt_term") fd__law_rt_term := fun_of Q__law_rt_term
  have k__law_rt_term := F__law_rt_term.kp
  have b__law_rt_term := F__law_rt_term.binds (ps := ["state", "deep", "ahead"]) fun _ _ _ _ _ _ us hl => match us, hl with | [_, _, _], _ => rfl
  obtain ⟨fd__law_rt_parts, Q__law_rt_parts⟩ := c.t.d.def_ 39 (d := dfd "_law_rt_parts" s_law_rt_parts) rfl
  have F__law_rt_parts : Fun K "_law_rt_parts" "_law_rt_parts" s_law_rt_parts (He.ga K "_law_rt_parts") fd__law_rt_parts := fun_of Q__law_rt_parts
  have k__law_rt_parts := F__law_rt_parts.kp
  have b__law_rt_parts := F__law_rt_parts.binds (ps := ["term"]) fun _ _ _ _ _ _ us hl => match us, hl with | [_], _ => rfl
  obtain ⟨fd__law_rt_leaves, Q__law_rt_leaves⟩ := c.t.d.def_ 40 (d := dfd "_law_rt_leaves" s_law_rt_leaves) rfl
  have F__law_rt_leaves : Fun K "_law_rt_leaves" "_law_rt_leaves" s_law_rt_leaves (He.ga K "_law_rt_leaves") fd__law_rt_leaves := fun_of Q__law_rt_leaves
  have k__law_rt_leaves := F__law_rt_leaves.kp
  have b__law_rt_leaves := F__law_rt_leaves.binds (ps := ["term", "ahead"]) fun _ _ _ _ _ _ us hl => match us, hl with | [_, _], _ => rfl
  obtain ⟨fd__law_rt_with, Q__law_rt_with⟩ := c.t.d.def_ 41 (d := dfd "_law_rt_with" s_law_rt_with) rfl
  have F__law_rt_with : Fun K "_law_rt_with" "_law_rt_with" s_law_rt_with (He.ga K "_law_rt_with") fd__law_rt_with := fun_of Q__law_rt_with
  have k__law_rt_with := F__law_rt_with.kp
  have b__law_rt_with := F__law_rt_with.binds (ps := ["term", "leaves"]) fun _ _ _ _ _ _ us hl => match us, hl with | [_, _], _ => rfl
  obtain ⟨fd__law_rt_tree, Q__law_rt_tree⟩ := c.t.d.def_ 42 (d := dfd "_law_rt_tree" s_law_rt_tree) rfl
  have F__law_rt_tree : Fun K "_law_rt_tree" "_law_rt_tree" s_law_rt_tree (He.ga K "_law_rt_tree") fd__law_rt_tree := fun_of Q__law_rt_tree
  have k__law_rt_tree := F__law_rt_tree.kp
  have b__law_rt_tree := F__law_rt_tree.binds (ps := ["state", "deep"]) fun _ _ _ _ _ _ us hl => match us, hl with | [_, _], _ => rfl
  obtain ⟨fd__law_rt_closed, Q__law_rt_closed⟩ := c.t.d.def_ 43 (d := dfd "_law_rt_closed" s_law_rt_closed) rfl
  have F__law_rt_closed : Fun K "_law_rt_closed" "_law_rt_closed" s_law_rt_closed (He.ga K "_law_rt_closed") fd__law_rt_closed := fun_of Q__law_rt_closed
  have k__law_rt_closed := F__law_rt_closed.kp
  have b__law_rt_closed := F__law_rt_closed.binds (ps := ["state", "deep"]) fun _ _ _ _ _ _ us hl => match us, hl with | [_, _], _ => rfl
  obtain ⟨fd__law_rt_declaration, Q__law_rt_declaration⟩ := c.t.d.def_ 44 (d := dfd "_law_rt_declaration" s_law_rt_declaration) rfl
  have F__law_rt_declaration : Fun K "_law_rt_declaration" "_law_rt_declaration" s_law_rt_declaration (He.ga K "_law_rt_declaration") fd__law_rt_declaration := fun_of Q__law_rt_declaration
  have k__law_rt_declaration := F__law_rt_declaration.kp
  have b__law_rt_declaration := F__law_rt_declaration.binds (ps := ["state"]) fun _ _ _ _ _ _ us hl => match us, hl with | [_], _ => rfl
  obtain ⟨fd__law_k06_words, Q__law_k06_words⟩ := c.t.d.def_ 45 (d := dfd "_law_k06_words" s_law_k06_words) rfl
  have F__law_k06_words : Fun K "_law_k06_words" "_law_k06_words" s_law_k06_words (He.ga K "_law_k06_words") fd__law_k06_words := fun_of Q__law_k06_words
  have k__law_k06_words := F__law_k06_words.kp
  have b__law_k06_words := F__law_k06_words.binds (ps := ["term"]) fun _ _ _ _ _ _ us hl => match us, hl with | [_], _ => rfl
  obtain ⟨fd__law_k06_tree, Q__law_k06_tree⟩ := c.t.d.def_ 46 (d := dfd "_law_k06_tree" s_law_k06_tree) rfl
  have F__law_k06_tree : Fun K "_law_k06_tree" "_law_k06_tree" s_law_k06_tree (He.ga K "_law_k06_tree") fd__law_k06_tree := fun_of Q__law_k06_tree
  have k__law_k06_tree := F__law_k06_tree.kp
  have b__law_k06_tree := F__law_k06_tree.binds (ps := ["tree"]) fun _ _ _ _ _ _ us hl => match us, hl with | [_], _ => rfl
  obtain ⟨fd__law_k06_rows, Q__law_k06_rows⟩ := c.t.d.def_ 47 (d := dfd "_law_k06_rows" s_law_k06_rows) rfl
  have F__law_k06_rows : Fun K "_law_k06_rows" "_law_k06_rows" s_law_k06_rows (He.ga K "_law_k06_rows") fd__law_k06_rows := fun_of Q__law_k06_rows
  have k__law_k06_rows := F__law_k06_rows.kp
  have b__law_k06_rows := F__law_k06_rows.binds (ps := ["one"]) fun _ _ _ _ _ _ us hl => match us, hl with | [_], _ => rfl
  obtain ⟨fd_law, Q_law⟩ := c.t.d.def_ 48 (d := dfd "law" s_law) rfl
  have F_law : Fun K "law" "law" s_law (He.ga K "law") fd_law := fun_of Q_law
  have k_law := F_law.kp
  have b_law := F_law.binds (ps := ["script"]) fun _ _ _ _ _ _ us hl => match us, hl with | [_], _ => rfl
  have e := hfa.symm.trans m_law
  cases e
  have bA := L2.FunD.bindsA (ps := ["script"]) Q_law fun _ _ _ _ _ _ us hl => match us, hl with | [_], _ => rfl
  refine ⟨fd_law, fun s v => bA s [v] rfl, fun base _ _ TB => ?_⟩
  obtain ⟨es, n, KS⟩ := c.t.tab 0 (t := (fun K => He.ga K "SIGNS", ["bound", "local", "hole"])) rfl
  have qK : KD K w (He.ga K "SIGNS") sgK := kd_of (ps := sigP) KS B7 (by decide +kernel)
  have qS : KSigns K w (He.ga K "SIGNS") := ⟨kdct_of KS B8 (by simp [sigV]), kdct_of KS B8 (by simp [sigV]), kdct_of KS B8 (by simp [sigV])⟩
  have qKEPT : KTup K (He.ga K "KEPT") keptL := ktup_of B9
  have qMARKS : KTup K (He.ga K "MARKS") markL := ktup_of B10
  have kD := kind_of (r := "declaration ") B5 (by decide +kernel)
  have kT := kind_of (r := "text ") B6 (by decide +kernel)
  have I := c.init 0 (d := ⟨"BadText", "BadText.__init__", iniS 16⟩) rfl
  obtain ⟨_, _, _, _, _, _, _, _, lI⟩ := I.ex
  have J : IniAt P K mg (He.ga K "BadText") (iniA K "BadText") (iniC K "BadText") (iniO K "BadText") "BadText.__init__" (iniS 16) _ := ⟨⟨_, _, _, _, _, _, _, _, rfl, lI⟩, I.cd, sup_of B2 n_super (oex_of B3)⟩
  have Mv := mkx_BadText (P := P) (w := w) (mg := mg) (base := base) J B4 I.fi I.ty g_BadText
  have Mh := mkh_BadText (P := P) (w := w) (mg := mg) (base := base) J B4 I.fi I.ty g_BadText
  have rk : RaK K (.ref (He.ga K "BadText")) := ⟨B11, B12⟩
  have D_law_blended : Df P w K mg base "_law_blended" 1 ["state"] spBlended := ⟨_, _, ok_blended F__law_blended n_int, m__law_blended, k__law_blended, b__law_blended⟩
  have D_law_draw : Df P w K mg base "_law_draw" 2 ["state", "size_here"] spDraw := ⟨_, _, ok_draw F__law_draw n_int D_law_blended, m__law_draw, k__law_draw, b__law_draw⟩
  have D_law_pick : Df P w K mg base "_law_pick" 3 ["state", "several"] spPick := ⟨_, _, ok_pick F__law_pick n_len D_law_draw, m__law_pick, k__law_pick, b__law_pick⟩
  have D_law_rt_parts : Df P w K mg base "_law_rt_parts" 1 ["term"] (spParts K) := ⟨_, _, ok_rt_parts F__law_rt_parts, m__law_rt_parts, k__law_rt_parts, b__law_rt_parts⟩
  have Down_parts : Df P w K mg base "own_parts" 1 ["term"] (spParts K) := ⟨_, _, ok_own_parts F_own_parts, m_own_parts, k_own_parts, b_own_parts⟩
  have Dis_whole : Df P w K mg base "is_whole" 1 ["value"] (spWhole K) := ⟨_, _, ok_whole F_is_whole n_isinstance n_int n_bool, m_is_whole, k_is_whole, b_is_whole⟩
  have Dis_number : Df P w K mg base "is_number" 2 ["value", "least", "most"] (spNumber K) := ⟨_, _, ok_number F_is_number Dis_whole, m_is_number, k_is_number, b_is_number⟩
  have Dis_mark : Df P w K mg base "is_mark" 1 ["value"] (spMark K) := ⟨_, _, ok_mark F_is_mark n_isinstance n_str g_MARKS qMARKS, m_is_mark, k_is_mark, b_is_mark⟩
  have Dis_word : Df P w K mg base "is_word" 1 ["value"] (spWord K) := ⟨_, _, ok_word F_is_word n_isinstance n_str n_len n_all g_KEPT qKEPT g_SMALL g_CAPITAL g_DIGITS g_MOST_LETTERS, m_is_word, k_is_word, b_is_word⟩
  have Dis_node : Df P w K mg base "is_node" 3 ["value"] (spNode K) := ⟨_, _, ok_node F_is_node n_isinstance n_str n_tuple n_len g_LEVELS g_MOST_COUNT g_MOST_NUMBER Dis_mark Dis_number Dis_word, m_is_node, k_is_node, b_is_node⟩
  have Dis_term : Df P w K mg base "is_term" 4 ["value"] (spTerm4 K) := ⟨_, _, ok_isterm F_is_term Dis_node Down_parts, m_is_term, k_is_term, b_is_term⟩
  have Dleaf_text : Df P w K mg base "leaf_text" 1 ["term"] (spLeafT K) := ⟨_, _, ok_leaf_text F_leaf_text n_str g_SIGNS qS, m_leaf_text, k_leaf_text, b_leaf_text⟩
  have Dcore_words : Df P w K mg base "core_words" 202 ["term"] (spCW K 200) := ⟨_, _, ok_core_words F_core_words m_core_words b_core_words Down_parts Dleaf_text 200, m_core_words, k_core_words, b_core_words⟩
  have Gterm_text := ok_term_text (N := 200) F_term_text ⟨x1_BadTerm, g_BadTerm, x2_BadTerm, x3_BadTerm, x4_BadTerm⟩ Dis_term Dcore_words (by decide)
  have Dterm_text : DfX P w K mg base "term_text" 203 ["term"] (spTT K (He.ga K "BadTerm") 200) := ⟨_, _, Gterm_text, m_term_text, k_term_text, b_term_text⟩
  have Dread_number : Df P w K mg base "read_number" 1 ["word"] (spRN) := ⟨_, _, ok_read_number F_read_number n_len n_all n_int g_DIGITS, m_read_number, k_read_number, b_read_number⟩
  have Dread_leaf : Df P w K mg base "read_leaf" 4 ["word"] (spRL K) := ⟨_, _, ok_read_leaf F_read_leaf n_str n_int n_range g_LEVELS g_SIGNS qK Dread_number Dis_node Dis_word, m_read_leaf, k_read_leaf, b_read_leaf⟩
  have Dread_words : DfN P w K mg base "read_words" 5 ["words", "at"] (spRW K (He.ga K "BadText")) := ⟨_, _, ok_read_words F_read_words n_len n_tuple Mv Dis_mark Dread_leaf, m_read_words, k_read_words, b_read_words⟩
  have Dread_term : DfN P w K mg base "read_term" 6 ["text"] (spRT K (He.ga K "BadText")) := ⟨_, _, ok_read_term F_read_term n_isinstance n_str n_len Mv Dread_words, m_read_term, k_read_term, b_read_term⟩
  have Dis_small : Df P w K mg base "is_small" 2 ["value"] (spSm) := ⟨_, _, ok_is_small F_is_small g_SMALL Dis_word, m_is_small, k_is_small, b_is_small⟩
  have Dis_capital : Df P w K mg base "is_capital" 2 ["value"] (spCap) := ⟨_, _, ok_is_capital F_is_capital g_CAPITAL Dis_word, m_is_capital, k_is_capital, b_is_capital⟩
  have Dis_closed : Df P w K mg base "is_closed" 2 ["term"] (spClo K) := ⟨_, _, ok_is_closed F_is_closed Down_parts, m_is_closed, k_is_closed, b_is_closed⟩
  have Dis_tree : Df P w K mg base "is_tree" 5 ["value"] (spTree K) := ⟨_, _, ok_is_tree F_is_tree n_isinstance n_tuple n_str n_len n_list g_MOST_PLACES Dis_term Dis_number, m_is_tree, k_is_tree, b_is_tree⟩
  have Dis_kind : Df P w K mg base "is_kind" 5 ["value"] (spKind K) := ⟨_, _, ok_is_kind F_is_kind n_isinstance n_tuple n_len g_MOST_ARGUMENTS Dis_term Dis_number Dis_capital Dis_closed, m_is_kind, k_is_kind, b_is_kind⟩
  have Dis_function : Df P w K mg base "is_function" 6 ["value"] (spFun K) := ⟨_, _, ok_is_function F_is_function n_isinstance n_tuple n_bool n_len g_MOST_ARGUMENTS Dis_term Dis_number Dis_small Dis_closed Dis_tree, m_is_function, k_is_function, b_is_function⟩
  have Dis_declaration : Df P w K mg base "is_declaration" 7 ["value"] (spDecl K) := ⟨_, _, ok_is_declaration F_is_declaration Dis_kind Dis_function, m_is_declaration, k_is_declaration, b_is_declaration⟩
  have OD : Own1 K mg "BadDeclaration" (He.ga K "BadDeclaration") := ⟨x1_BadDeclaration, g_BadDeclaration, x2_BadDeclaration, x3_BadDeclaration, x4_BadDeclaration⟩
  have Dtree_rows : DfX P w K mg base "tree_rows" 204 ["tree"] (spTR K) := ⟨_, _, ok_tree_rows F_tree_rows n_str n_len n_list Dterm_text, m_tree_rows, k_tree_rows, b_tree_rows⟩
  have Gdeclared_text := ok_declared_text F_declared_text OD n_str n_len Dis_declaration Dterm_text Dtree_rows
  have Ddeclared_text : DfX P w K mg base "declared_text" 205 ["declaration"] (spDT K (He.ga K "BadDeclaration")) := ⟨_, _, Gdeclared_text, m_declared_text, k_declared_text, b_declared_text⟩
  have Gdeclarations_text := ok_declarations_text F_declarations_text OD n_isinstance n_tuple n_all Dis_declaration Ddeclared_text
  have Dneed_row : DfX P w K mg base "need_row" 3 ["right", "row"] (spNR (He.ga K "BadText")) := ⟨_, _, ok_need_row F_need_row Mv, m_need_row, k_need_row, b_need_row⟩
  have Dterm_behind : DfX P w K mg base "term_behind" 7 ["rows", "row", "words_ahead"] (spTB K (He.ga K "BadText")) := ⟨_, _, ok_term_behind F_term_behind n_len g_BadText e_BadText_BadText rk Mh Dneed_row Dread_term, m_term_behind, k_term_behind, b_term_behind⟩
  have Dread_kind : DfX P w K mg base "read_kind" 8 ["rows", "row"] (spRdK K (He.ga K "BadText")) := ⟨_, _, ok_read_kind F_read_kind n_len n_range n_tuple g_MOST_ARGUMENTS Dneed_row Dterm_behind Dis_capital Dis_closed Dread_number, m_read_kind, k_read_kind, b_read_kind⟩
  have Dread_tree : DfX P w K mg base "read_tree" 8 ["rows", "row"] (spRdT K (He.ga K "BadText")) := ⟨_, _, ok_read_tree F_read_tree n_len n_tuple g_MOST_PLACES Dneed_row Dterm_behind Dread_number, m_read_tree, k_read_tree, b_read_tree⟩
  have Dread_function : DfX P w K mg base "read_function" 9 ["rows", "row"] (spRdF K (He.ga K "BadText")) := ⟨_, _, ok_read_function F_read_function n_len g_MOST_ARGUMENTS Dneed_row Dterm_behind Dread_tree Dis_small Dis_closed Dread_number, m_read_function, k_read_function, b_read_function⟩
  have Dread_from : DfX P w K mg base "read_from" 10 ["rows", "row"] (spRdFrom K (He.ga K "BadText")) := ⟨_, _, ok_read_from F_read_from n_len Dneed_row Dread_kind Dread_function, m_read_from, k_read_from, b_read_from⟩
  have Gread_declared := ok_read_declared F_read_declared n_isinstance n_str n_len Mv Dneed_row Dread_from
  have Gread_declarations := ok_read_declarations F_read_declarations n_isinstance n_str n_tuple n_len Mv Dread_from
  have D_law_rt_term3 : Df P w K mg base "_law_rt_term" 6 ["state", "deep", "ahead"] (spTerm K 3) := ⟨_, _, ok_term F__law_rt_term m__law_rt_term b__law_rt_term D_law_draw D_law_pick 3, m__law_rt_term, k__law_rt_term, b__law_rt_term⟩
  have D_law_rt_term4 : Df P w K mg base "_law_rt_term" 7 ["state", "deep", "ahead"] (spTerm K 4) := ⟨_, _, ok_term F__law_rt_term m__law_rt_term b__law_rt_term D_law_draw D_law_pick 4, m__law_rt_term, k__law_rt_term, b__law_rt_term⟩
  have D_law_rt_leaves : Df P w K mg base "_law_rt_leaves" 5 ["term", "ahead"] (spLeaves K 4) := ⟨_, _, ok_leaves F__law_rt_leaves m__law_rt_leaves b__law_rt_leaves D_law_rt_parts 4, m__law_rt_leaves, k__law_rt_leaves, b__law_rt_leaves⟩
  have D_law_rt_with : Df P w K mg base "_law_rt_with" 5 ["term", "leaves"] (spWith K 4) := ⟨_, _, ok_with F__law_rt_with m__law_rt_with b__law_rt_with D_law_rt_parts 4, m__law_rt_with, k__law_rt_with, b__law_rt_with⟩
  have D_law_rt_closed : Df P w K mg base "_law_rt_closed" 8 ["state", "deep"] (spClosed K 4) := ⟨_, _, ok_closed (by decide) F__law_rt_closed D_law_rt_term4 D_law_rt_leaves D_law_rt_with, m__law_rt_closed, k__law_rt_closed, b__law_rt_closed⟩
  have D_law_rt_tree : Df P w K mg base "_law_rt_tree" 11 ["state", "deep"] (spRtT K 4) := ⟨_, _, ok_rt_tree F__law_rt_tree m__law_rt_tree b__law_rt_tree n_range n_tuple D_law_draw D_law_pick D_law_rt_term3 4, m__law_rt_tree, k__law_rt_tree, b__law_rt_tree⟩
  have D_law_k06_words : Df P w K mg base "_law_k06_words" 28 ["term"] (spCW K 26) := ⟨_, _, ok_law_words F__law_k06_words m__law_k06_words b__law_k06_words n_str D_law_rt_parts 26, m__law_k06_words, k__law_k06_words, b__law_k06_words⟩
  have D_law_k06_tree : Df P w K mg base "_law_k06_tree" 71 ["tree"] (spLTr K 42) := ⟨_, _, ok_law_tree F__law_k06_tree m__law_k06_tree b__law_k06_tree n_str n_len D_law_k06_words 42, m__law_k06_tree, k__law_k06_tree, b__law_k06_tree⟩
  exact ok_law (law_code F_law) TB F__law_caught m__law_caught b__law_caught n_len n_min n_range n_repr n_tuple g_TongueError m_read_declared m_read_declarations kD kT (exk_of B0) (exk_of B1) e_BadDeclaration_TongueError e_BadText_TongueError B4
    ⟨_, _, ok_begun F__law_begun n_abs, m__law_begun, k__law_begun, b__law_begun⟩ D_law_draw D_law_pick
    ⟨_, _, ok_rt_decl F__law_rt_declaration n_range n_tuple D_law_draw D_law_pick D_law_rt_closed D_law_rt_tree, m__law_rt_declaration, k__law_rt_declaration, b__law_rt_declaration⟩
    ⟨_, _, ok_law_rows F__law_k06_rows n_str n_len D_law_k06_words D_law_k06_tree, m__law_k06_rows, k__law_k06_rows, b__law_k06_rows⟩
    ⟨_, _, ok_rk_kind F__law_rk_kind n_isinstance n_ValueError g_TongueError g_BadTerm g_BadDeclaration g_BadText, m__law_rk_kind, k__law_rk_kind, b__law_rk_kind⟩
    Ddeclared_text ⟨_, _, Gdeclared_text, m_declared_text, k_declared_text, (by obtain ⟨_, _, _, _, _, _, _, _, _, e, _, _⟩ := F_declared_text.ex; subst e; exact fun s ws _ h => match ws, h with | [_], _ => .of_eq rfl)⟩
    ⟨_, _, Gread_declared, m_read_declared, k_read_declared, b_read_declared⟩ ⟨_, _, Gread_declared, m_read_declared, k_read_declared, (by obtain ⟨_, _, _, _, _, _, _, _, _, e, _, _⟩ := F_read_declared.ex; subst e; exact fun s ws _ h => match ws, h with | [_], _ => .of_eq rfl)⟩
    ⟨_, _, Gdeclarations_text, m_declarations_text, k_declarations_text, b_declarations_text⟩ ⟨_, _, Gdeclarations_text, m_declarations_text, k_declarations_text, (by obtain ⟨_, _, _, _, _, _, _, _, _, e, _, _⟩ := F_declarations_text.ex; subst e; exact fun s ws _ h => match ws, h with | [_], _ => .of_eq rfl)⟩
    ⟨_, _, Gread_declarations, m_read_declarations, k_read_declarations, b_read_declarations⟩ ⟨_, _, Gread_declarations, m_read_declarations, k_read_declarations, (by obtain ⟨_, _, _, _, _, _, _, _, _, e, _, _⟩ := F_read_declarations.ex; subst e; exact fun s ws _ h => match ws, h with | [_], _ => .of_eq rfl)⟩
theorem fin_mk {l : PySem.W.OpenLaw} {w : World} {K : PySem.W.Frag} {h : Heap} {mg : Str → Option Value} {fa : Addr} (X : K.In h) (G : h.Ns mainGlobals mg) (hfa : mg "law" = some (.ref fa)) (c : SaysY faL fnL tsL tfL (exB l.prog) inL w h K) :
    ∃ (fd : FuncData) (cs : List (Addr × Addr)) (sp : Sp), (∀ p ∈ cs, h.get? p.2 = some emptyT) ∧ (∀ p ∈ cs, K.lookup p.2 = none) ∧ (∀ p ∈ cs, PySem.W.CodeHd h p.1 p.2) ∧ (∀ (s : Shared) (u : Value), BindsTo s fd ⟨[u], []⟩ [("script", u)]) ∧
        (∀ (H : Hp) (a : Addr) (ns : List Int), ns.length ≤ 63 → (∀ p ∈ cs, H p.2 = some (.tbl #[])) → SqL K H a (ns.map V.int) → sp [.ref a] H (fun v _ => v = .bl true) fun _ _ _ => False) ∧
        ∀ base : Heap, K.In base → base.Ns mainGlobals mg → (∀ p ∈ cs, TabB base mg p.1 p.2) → FnG l.prog w K mg base 209 fa fd ["script"] sp := by
  obtain ⟨fd, hb, hF⟩ := all_mk (P := l.prog) X G hfa c
  have hmem : (("law", none) : He.Defn) ∈ tfL := List.mem_singleton.mpr rfl
  refine ⟨fd, [He.cT K ("law", none)], spLaw6 K (He.cT K ("law", none)).2, fun p hp => ?_, fun p hp => ?_, fun p hp => ?_, hb, fun H a ns hl hH hS => ⟨⟨a, ns, rfl, hS, hl, fun p hp => ?_, fun _ => rfl⟩⟩, fun base k1 k2 k3 => hF base k1 k2 (k3 _ (List.mem_singleton.mpr rfl))⟩
  · rw [List.mem_singleton.mp hp]; exact c.emp _ hmem
  · rw [List.mem_singleton.mp hp]; exact c.out _ hmem
  · rw [List.mem_singleton.mp hp]; exact PySem.W.codeHd_of_K X (c.hd _ hmem)
  · rw [List.mem_singleton.mp hp]; exact TabS.nil (hH _ (List.mem_singleton.mpr rfl))
theorem says_by {w : World} {K : PySem.W.Frag} (h : He.obsT faL fnL tsL K = He.valT fnL tsL w) : He.SaysT faL fnL tsL w K := h
theorem tf_one {Z : He.Defn → Prop} (h : Z ("law", none)) : ∀ p ∈ tfL, Z p := fun p hp => by rw [List.mem_singleton.mp hp]; exact h
end RS
open PySem PySem.W PyProof.Rows
set_option maxRecDepth 100000 in
set_option maxHeartbeats 0 in
theorem PySem.Challenge.cw_runsasshown_k06_whole_texts_of_declarati_holds : PySem.Challenge.rw_runsasshown_k06_whole_texts_of_declarati.Holds := by
  w_on; o_law; k_head; (case hw => w_witness2)
  k_fill
  refine RS.walkT (l := PySem.Challenge.rw_runsasshown_k06_whole_texts_of_declarati) (n := 63) (k := 209) (x := "script") rfl (by decide) rfl ⟨rfl, by decide, by decide⟩ (fun w h Y => PySem.W.km_in_of Y) ?F
  case F =>
    intro w mg fa h Y KX G hmg
    refine RS.fin_mk (l := PySem.Challenge.rw_runsasshown_k06_whole_texts_of_declarati) KX G hmg ⟨?c1, ?c2, ?c3, ?c4, RS.tf_one ?c5, RS.tf_one ?c6, RS.tf_one ?c7⟩
    case c1 => exact RS.says_by (by kernel_rfl)
    case c2 => kernel_rfl
    case c3 => kernel_rfl
    case c4 => kernel_rfl
    case c5 => kernel_rfl
    case c6 => kernel_rfl
    case c7 => exact PySem.W.km_tabs_of Y _ (List.mem_singleton.mpr (by kernel_rfl))

