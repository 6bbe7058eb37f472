import PyProof.Rows.All
import Wide.All
import OpenK.AllK
import Wide.FinOn
import HandS.ForMost
import HandS.More
import HandS.Star
import HandS.SortRule
import HandS.SortInts
import HandS.Conv
import HandS.Wide
import HandS.Flow
import HandS.IsInst
import HandS.Defaults
import HandS.NoneIn
import HandS.ListItems
import HandS.DictComp
import HandS.OwnEq
import HandS.Style
import HandS.TupAny
import HandS.Exc
import HandS.ExcValue
import HandS.ExcField
import HandS.ExcIs
import HandS.EndBits
import PyProof.ReprRoads
import KE.KExcSuper
import HandS.ExcSuper
import HandS.ForSpec
import OpenK.KMeth
import PyProof.EqAt
import HandS.ExcOwn
import PyProof.ReprLen
import PyProof.Rows.RegStrFacts
import KE.RegKIsAll
import KE.RegKSuper
import PySem.Challenge.RW_oneedition_k37_spans_of_any_values
set_option Elab.async false
set_option linter.all false
set_option maxRecDepth 100000
set_option maxHeartbeats 4000000
/-! Rules of our own over the hand layer. -/
namespace S1
open PySem PySem.Spec PyProof.Rows L2 StX
section
variable {X : Cx}
/-- a ** b where the result stays below 2^27 bits -/
theorem op_powW : OpR X (binaryOp .Pow) (rI (fun i j => 0 ≤ j ∧ (Builtin.Int.intBits i : Int) * j ≤ 2 ^ 27) fun i j => .int (i ^ j.toNat)) := opI fun _ _ _ _ _ _ _ hc q => pow_int hc.1 hc.2 q

/-! ### three comparisons in a row -/
variable {a b c d : Expr} {ta tb tc td : TE} {pos : Pos} {op op' op2 : CmpOp} {r r' r2 : R2}
def tChain3 (r r' r2 : R2) (ta tb tc td : TE) : TE := fun σ H Q => ta σ H fun x H1 => tb σ H1 fun y H2 => r x y H2 fun z H3 => ∃ k, z = .bl k ∧
  (if k = true then tc σ H3 fun w' H4 => r' y w' H4 fun z' H5 => ∃ k', z' = .bl k' ∧ (if k' = true then td σ H5 fun v' H6 => r2 w' v' H6 Q else Q (.bl false) H5) else Q (.bl false) H3)
theorem pe_chain3 (ho : OpR X (compareOp op) r) (ho' : OpR X (compareOp op') r') (ho2 : OpR X (compareOp op2) r2) (ha : PE X a ta) (hb : PE X b tb) (hc : PE X c tc) (hd : PE X d td)
    (hm : lastMarks [op, op', op2] [b, c, d] = false := by with_unfolding_all rfl) : PE X (.Compare a [op, op', op2] [b, c, d] pos) (tChain3 r r' r2 ta tb tc td) := by
  refine ⟨fun pins s σ H Q I h => ?_⟩
  refine Compare_chain (thn (ha.run pins s σ H _ I h) fun v s1 ⟨x, H1, I1, r1, q1⟩ => chain_link (thn (hb.run pins s1 σ H1 _ I1 q1) fun u s2 ⟨y, H2, I2, r2, q2⟩ =>
    thn (ho pins s2 σ H2 x y v u _ I2 r1 r2 q2) fun d s3 ⟨z, H3, I3, r3, k, e, q3⟩ => ?_)) hm
  subst e
  cases r3
  refine wpAny_truthy_bool ?_
  cases k with
  | false => exact ite_ff ⟨.bl false, H3, I3, rfl, q3⟩
  | true =>
    refine ite_tt (chain_link (thn (hc.run pins s3 σ H3 _ I3 q3) fun w' s4 ⟨z', H4, I4, r4, q4⟩ => thn (ho' pins s4 σ H4 y z' u w' _ I4 r2 r4 q4) fun d' s5 ⟨z2, H5, I5, r5, k2, e2, q5⟩ => ?_))
    subst e2
    cases r5
    refine wpAny_truthy_bool ?_
    cases k2 with
    | false => exact ite_ff ⟨.bl false, H5, I5, rfl, q5⟩
    | true => exact ite_tt (chain_last (thn (hd.run pins s5 σ H5 _ I5 q5) fun w2 s6 ⟨z3, H6, I6, r6, q6⟩ => ho2 pins s6 σ H6 z' z3 w' w2 Q I6 r4 r6 q6))

/-! ### a list or a tuple that is walked -/
variable {tg l : Expr} {tl : TE}
def iSeq (K : PySem.W.Frag) (tl : TE) : TI := fun σ H R => tl σ H fun x H1 => ∃ a, x = .ref a ∧ (((∃ xs, SqL K H1 a xs) ∧ R (Itl K a) H1) ∨ ((∃ xs, SqT K H1 a xs) ∧ R (Itt K a) H1))
theorem pi_seq (hl : PE X l tl) : PI X tg l (iSeq X.K tl) := by
  refine ⟨fun pins s σ H R I h => ?_⟩
  refine thn (hl.run pins s σ H _ I h) fun v s1 ⟨x, H1, I1, r1, q1⟩ => ?_
  obtain ⟨a, e, ⟨⟨xs, hq⟩, q⟩ | ⟨⟨xs, hq⟩, q⟩⟩ := q1
  · subst e
    cases r1
    obtain ⟨its, rv, p, hz⟩ := I1.list hq
    refine wpAny_pyIter_list p.isList ?_
    refine ⟨s1.heap.objs.size, [s1.heap.objs.size], _, _, H1, rfl, I1.kept (t' := s1.toks) fun b o e => Heap.get?_push_of_some _ e, turn_list a _, ⟨_, Heap.get?_push_size _ rfl, rfl, rfl⟩, fun b hb => ?_, q⟩
    have e : b = s1.heap.objs.size := by simpa using hb
    subst e
    exact I1.fpOk (Nat.le_refl _) (I1.hok.fresh (Nat.le_refl _))
  · subst e
    cases r1
    obtain ⟨its, rv, p, hz⟩ := I1.tuple hq
    refine wpAny_pyIter_tuple (show s1.heap.IsTuple a its.toArray from p) ?_
    refine ⟨s1.heap.objs.size, [s1.heap.objs.size], _, _, H1, rfl, I1.kept (t' := s1.toks) fun b o e => Heap.get?_push_of_some _ e, turn_tuple a _, ⟨_, Heap.get?_push_size _ rfl, rfl, rfl⟩, fun b hb => ?_, q⟩
    have e : b = s1.heap.objs.size := by simpa using hb
    subst e
    exact I1.fpOk (Nat.le_refl _) (I1.hok.fresh (Nat.le_refl _))

/-! ### C(*xs, ..) -/
variable {CX : CXT} {k : Nat} {f C : Addr} {sp : Sp} {E : XK} {x : Str} {e : Expr} {es : List Expr} {t : TA} {p sp_ : Pos}
theorem evalArgs_star {M : Model} {A : Around} {Ee : Value → Shared → Prop} {s : Shared} {fv : Value} {x0 : Sem Value} {y0 : Bool × Sem Value} {rest : List (Bool × Sem Value)} {Q : Args → Shared → Prop}
    (h : wpAny M A (spliced ((true, x0) :: y0 :: rest)) (fun vs s1 => Q ⟨vs, []⟩ s1) Ee s) : wpAny M A (evalArgs fv true ((true, x0) :: y0 :: rest) []) Q Ee s := by
  unfold evalArgs
  show wpAny M A (spliced ((true, x0) :: y0 :: rest) >>= _) Q Ee s
  refine wpAny_bind (wpAny_mono h (fun vs s' h' => ?_) fun _ _ x => x)
  refine wpAny_holding ?_
  exact wpAny_bind (wpAny_pure (wpAny_bind (wpAny_pure (wpAny_pure h'))))
/-- C(*y) -/
theorem pe_makeS1 (M : Mk X.K C f) (F : FnR X.prog X.w X.K X.mg X.base CX k f sp) (hr : Room (k + 1) X.A) (hg : Gl X x) (hm : X.mg x = some (.ref C)) (hx : Passes CX X E) {te : TE} (he : PE X e te) (hdb : (x == ("__debug__" : Str)) = false := by decide)
    (hst : starEach [.Starred e sp_] X.env = [(true, eval e X.env)] := by rfl) : PE X (.Call (.Name x p) [.Starred e sp_] [] pos) (tMakeR C sp E (tStar X.K te tNil)) := by
  refine ⟨fun pins s σ H Q I h => ?_⟩
  refine wpAny_Call_Name_kw (ld_glob I hg hm ?_ hdb)
  refine PySem.W.callWith_S (h₀ := X.base) I.ok.mod.kin M.kp (thn (he.run pins s σ H _ I h) fun v s1 ⟨y, H1, I1, ry, a, xs, ey, hxs, q⟩ => ?_) hst
  subst ey
  obtain rfl : v = Value.ref a := ry
  have q' : ∀ x dx, H1 x = Option.none → H1 dx = Option.none → dx ≠ x → sp (V.ref x :: xs) (upd (upd H1 dx (.own x)) x (.ins C dx [])) (fun v H2 => v = .non ∧ Q (.ref x) H2) E := by
    have z : ∀ x dx, H1 x = Option.none → H1 dx = Option.none → dx ≠ x → sp (V.ref x :: (xs ++ [])) (upd (upd H1 dx (.own x)) x (.ins C dx [])) (fun v H2 => v = .non ∧ Q (.ref x) H2) E := q
    rw [List.append_nil] at z
    exact z
  exact StX.star_any I1 hxs fun us s2 I2 rv => ⟨I2.kIn, StX.run_makeR M F hr hx I2 rv q'⟩
/-- C(*y, ..) -/
theorem pe_makeS2 (M : Mk X.K C f) (F : FnR X.prog X.w X.K X.mg X.base CX k f sp) (hr : Room (k + 1) X.A) (hg : Gl X x) (hm : X.mg x = some (.ref C)) (hx : Passes CX X E) {e2 : Expr} (ha : PA X (.Starred e sp_ :: e2 :: es) t) (hdb : (x == ("__debug__" : Str)) = false := by decide)
    (hst : ∃ b y rest, backTo pos (starEach (.Starred e sp_ :: e2 :: es) X.env) = (true, b) :: y :: rest := by exact ⟨_, _, _, rfl⟩) : PE X (.Call (.Name x p) (.Starred e sp_ :: e2 :: es) [] pos) (tMakeR C sp E t) := by
  refine ⟨fun pins s σ H Q I h => ?_⟩
  refine wpAny_Call_Name_kw (ld_glob I hg hm ?_ hdb)
  have z := thn (ha.run pos pins s σ H _ I h) fun us s1 ⟨vs, H1, I1, r, q⟩ => (show X.K.In s1.heap ∧ wpAny (model X.prog X.w) X.A (call (.ref C) us) (EP X pins σ Q) X.xe s1 from ⟨I1.kIn, StX.run_makeR M F hr hx I1 r q⟩)
  obtain ⟨b, y, rest, hb⟩ := hst
  show wpAny (model X.prog X.w) X.A (callWith pos (.ref C) [] (backTo pos (starEach (.Starred e sp_ :: e2 :: es) X.env)) []) _ _ s
  rw [hb] at z ⊢
  exact PySem.W.ks_call rfl (PySem.W.keeps_K M.kp) (evalArgs_star z)
/-- C() -/
theorem pe_makeR0 (M : Mk X.K C f) (F : FnR X.prog X.w X.K X.mg X.base CX k f sp) (hr : Room (k + 1) X.A) (hg : Gl X x) (hm : X.mg x = some (.ref C)) (hx : Passes CX X E) (hdb : (x == ("__debug__" : Str)) = false := by decide) : PE X (.Call (.Name x p) [] [] pos) (tMakeR C sp E tNil) := by
  refine ⟨fun pins s σ H Q I h => ?_⟩
  refine wpAny_Call_Name_kw (ld_glob I hg hm ?_ hdb)
  exact PySem.W.callWith_K0 I.kIn M.kp (StX.run_makeR (us := []) M F hr hx I .nil h)
end

/-! ### operators of an own class -/
section
variable {X : Cx} {CX : CXT} {k : Nat} {f C : Addr} {fd : FuncData} {ps : List Str} {sp : Sp} {E : XK}
theorem notimpl_of {v : V} {u : Value} (r : RelV v u) : u ≠ .notImplemented := by
  cases v with
  | non => cases r; intro h; cases h
  | bl _ => cases r; intro h; cases h
  | int _ => obtain ⟨t, rfl⟩ := r; intro h; cases h
  | str _ => obtain ⟨t, rfl⟩ := r; intro h; cases h
  | byt _ => obtain ⟨t, rfl⟩ := r; intro h; cases h
  | flt _ => obtain ⟨t, rfl⟩ := r; intro h; cases h
  | ref _ => cases r; intro h; cases h
  | ty _ => cases r; intro h; cases h
theorem cmpBack_of {Q : Value → Shared → Prop} {u : Value} {s : Shared} (h : u ≠ .notImplemented) (q : Q u s) : PySem.W.CmpBack Q u s := by
  unfold PySem.W.CmpBack
  cases u <;> first | exact absurd rfl h | exact q
/-- one op other, both of the class at C, by its own method -/
def rOwn (C : Addr) (sp : Sp) (E : XK) : R2 := fun x y H Q => ∃ a b dx dy fs gs, x = .ref a ∧ y = .ref b ∧ H a = some (.ins C dx fs) ∧ H b = some (.ins C dy gs) ∧ sp [.ref a, .ref b] H Q E
theorem op_own {op : Operator} (F : FnOk X.prog X.w X.K X.mg X.base CX k f fd ps sp) (hr : Room k X.A) (hb : Binds X.K fd ps []) (hx : Passes CX X E) (hc : PySem.W.selfFirst X.K C = true)
    (hs : PySem.W.findIn X.K (.ref C) (PySem.dunder op.info.2) = some (some (.ref f))) (hf : PySem.W.isFn X.K (.ref f) = true) : OpR X (binaryOp op) (rOwn C sp E) := by
  intro pins s σ H x y v u Q I rx ry h
  obtain ⟨a, b, dx, dy, fs, gs, rfl, rfl, ha, hb', hsp⟩ := h
  cases rx
  cases ry
  obtain ⟨mA, J, _⟩ := ins_get I.hok ha
  obtain ⟨mB, J', _⟩ := ins_get I.hok hb'
  obtain ⟨od, J, _⟩ := J.look
  obtain ⟨od', J', _⟩ := J'.look
  obtain ⟨m, hF⟩ := I.fr
  refine PySem.W.binop_K hF I.ok.mod.kin J J'.type hc hs hf ?_
  have r2 : Vals [V.ref a, V.ref b] [Value.ref a, Value.ref b] := .cons rfl (.cons rfl .nil)
  refine thn (run_fn (us := [.ref a, .ref b]) (vs := [.ref a, .ref b]) (ds := []) (dvs := []) F hr hb .nil hx I r2 hsp) fun w s' q => ?_
  obtain ⟨z, H', I', rz, q'⟩ := q
  exact cmpBack_of (notimpl_of rz) ⟨z, H', I', rz, q'⟩
/-- len(o) by its own method -/
def rOwnLen (C : Addr) (sp : Sp) (E : XK) : List V → Hp → VK → Prop := fun vs H Q => ∃ a dx fs, vs = [.ref a] ∧ H a = some (.ins C dx fs) ∧ sp [.ref a] H (fun v H' => ∃ n : Int, v = .int n ∧ 0 ≤ n ∧ n < 2 ^ 63 ∧ Q (.int n) H') E
end
end S1

namespace S1
open PySem PySem.Spec PyProof.Rows L2 StX
/-! ### sorted over whatever may be collected -/
section
variable {prog : Program} {w : World} {A : Around} {E : Value → Shared → Prop} {s : Shared}
theorem sorted_from {u : Value} {PV : List Value → Prop} {ltv : Value → Value → Bool} {Q : Value → Shared → Prop} (O : SrtO.Swo ltv) (hz : ∀ vs, PV vs → vs.length ≤ sizeLine)
    (hcol : ∀ Q' : List Value → Shared → Prop, (∀ (vs : List Value) (h' : Heap) (tk : Nat), PV vs → (∀ b o, s.heap.get? b = some o → h'.get? b = some o) → Q' vs { s with heap := h', toks := tk }) → wpAny (model prog w) A.in1 (collect u) Q' E s)
    (hS : ∀ vs : List Value, PV vs → 2 ≤ vs.length → ∀ (h₁ : Heap) (a : Addr) (tk : Nat), h₁.get? a = some (seqObj "list" vs.toArray 0) → (∀ b o, s.heap.get? b = some o → b ≠ a ∧ h₁.get? b = some o) → SrtO.SortableO prog w A.in1.in1 { s with heap := h₁, toks := tk } a vs ltv)
    (h : ∀ (vs : List Value) (h1 h' : Heap) (d : Addr) (tk : Nat) (out : List Value), PV vs → SrtO.Srtd ltv out → SrtO.Stb ltv out vs → (∀ b o, s.heap.get? b = some o → h1.get? b = some o) → (∀ b o, h1.get? b = some o → h'.get? b = some o) → h1.objs.size ≤ d → (∃ n, h'.get? d = some (seqObj "list" out.toArray n)) → Q (.ref d) { s with heap := h', toks := tk }) :
    wpAny (model prog w) A (call (.builtin "sorted") [u]) Q E s := by
  refine Calls.call_function_entry kind_sorted plain_sorted entry_sorted (args_sorted1 _) ?_
  unfold Builtin.«sorted»
  refine wpAny_bind (m := checkCount "sorted" 1 1 _) (wpAny_pure ?_)
  refine wpAny_bind (hcol _ fun vs h' tk pv hk => ?_)
  refine wpAny_bind (wpAny_newList ?_ (hz vs pv))
  have hoL : (h'.push (seqObj "list" vs.toArray 0)).get? h'.objs.size = some (seqObj "list" vs.toArray 0) := Heap.get?_push_size _ rfl
  have keep : ∀ b o, s.heap.get? b = some o → b ≠ h'.objs.size ∧ (h'.push (seqObj "list" vs.toArray 0)).get? b = some o := fun b o q =>
    ⟨Nat.ne_of_lt (Heap.lt_size (hk b o q)), Heap.get?_push_of_some _ (hk b o q)⟩
  show wpAny _ _ _ _ _ { s with heap := h'.push (seqObj "list" vs.toArray 0), toks := tk }
  refine wpAny_bind (wpAny_holding (wpAny_call_entry slot_list_sort ⟨_, hoL, rfl⟩ entry_list_sort (SrtO.list_sort_ord (s := { s with heap := h'.push (seqObj "list" vs.toArray 0), toks := tk }) O hoL (hz vs pv) (fun h2 => hS vs pv h2 _ _ tk hoL keep) fun out hs hb => ⟨_, rfl, ?_⟩) (args_list_sort _)))
  refine wpAny_pure ⟨_, rfl, h vs _ _ _ _ out pv hs hb hk (fun b o e => ?_) (Nat.le_refl _) ?_⟩
  · have hb : b < h'.objs.size := Heap.lt_size e
    rw [PyProof.Rows.sortedHeap_old (Nat.ne_of_lt hb) (by rw [size_push']; exact Nat.lt_succ_of_lt hb)]
    exact Heap.get?_push_of_some _ e
  · exact PyProof.Rows.sortedHeap_at (vs := vs) (out := out.toArray) hoL
end
section
variable {X : Cx}
/-- sorted of a list or a tuple of pairs of ints, any number -/
def rSortedPs (K : PySem.W.Frag) : List V → Hp → VK → Prop := fun vs H Q => ∃ (a : Addr) (xs : List V) (k : V → Int × Int), vs = [V.ref a] ∧ (SqL K H a xs ∨ SqT K H a xs) ∧ (∀ x ∈ xs, ∃ t, x = V.ref t ∧ H t = some (.tup [.int (k x).1, .int (k x).2])) ∧
  ∀ ys p, SrtO.Srtd (ltP k) ys → SrtO.Stb (ltP k) ys xs → H p = none → Q (.ref p) (upd H p (.lst ys))
theorem cr_sortedPs : CallR X (.builtin "sorted") (rSortedPs X.K) := by
  intro pins s σ H vs us Q I r h
  obtain ⟨a, xs, k, rfl, hs, hx, q⟩ := h
  obtain ⟨u, rfl, ru⟩ := vals1 r
  obtain rfl : u = Value.ref a := ru
  obtain ⟨its, rv, hz, o, T, n, hT, ho, hc, hd⟩ : ∃ (its : List Value) (rv : Vals xs its) (hz : xs.length ≤ sizeLine) (o : Obj) (T : String) (n : Nat), (T = "list" ∨ T = "tuple") ∧ s.heap.get? a = some o ∧ o.cls = .type T ∧ o.data = .seq its.toArray n := by
    rcases hs with hs | hs
    · obtain ⟨its, rv, hl, hz⟩ := I.list hs
      obtain ⟨o, ho, hc, n, hd⟩ := hl.isList
      exact ⟨its, rv, hz, o, "list", _, .inl rfl, ho, hc, hd⟩
    · obtain ⟨its, rv, ⟨o, ho, hc, n, hd⟩, hz⟩ := I.tuple hs
      exact ⟨its, rv, hz, o, "tuple", n, .inr rfl, ho, hc, hd⟩
  obtain ⟨e1, e2⟩ := refs_back rv fun x m => by
    obtain ⟨t, e, _⟩ := hx x m
    exact ⟨t, e⟩
  have hp : ∀ v ∈ its, Srt.IsPair s.heap v (k (backV v)).1 (k (backV v)).2 := fun v hv => by
    obtain ⟨t, rfl⟩ := e2 v hv
    have hm : V.ref t ∈ xs := by rw [e1]; exact List.mem_map.mpr ⟨_, hv, rfl⟩
    obtain ⟨t', e, ht⟩ := hx _ hm
    cases e
    obtain ⟨_, its2, r2, o, ho, hc, n, hd⟩ := I.hok _ _ ht
    obtain ⟨u1, u2, rfl, ri, rj⟩ := vals2 r2
    obtain ⟨t1, rfl⟩ := ri
    obtain ⟨t2, rfl⟩ := rj
    exact ⟨t, o, t1, t2, n, rfl, ho, hc, hd⟩
  refine sorted_from (PV := fun vs => vs = its) (SrtO.swo_lex fun u => k (backV u)) (fun vs e => by rw [e, ← rv.length]; exact hz) (fun Q' hq => ?_) (fun vs ev h2 h₁ a' tk ha kk => ?_) fun vs h1 h' d tk out ev s1 s2 k1 k2 hd' hn => ?_
  · have z := wpAny_collect_seq (prog := X.prog) (w := X.w) (A := X.A.in1) (E := X.xe) (Q := Q') a hT ho hc hd (fun h' hk => by
      have e : its.toArray.toList = its := by simp
      rw [e]
      exact hq its h' s.toks rfl hk) (by rw [List.size_toArray, ← rv.length]; exact hz)
    exact z
  · subst ev
    refine SrtO.pairs_sortableO (s := { s with heap := h₁, toks := tk }) (by omega) (fun v hm => (hp v hm).keeps fun b o e _ => (kk b o e).2) fun o e => ?_
    have e' : some o = some (seqObj "list" vs.toArray 0) := e.symm.trans ha
    cases e'
    intro c
    exact absurd (Value.type.inj c) (by decide)
  · subst ev
    have h3 : ∀ u ∈ out, ∃ a, u = Value.ref a := fun u hu => e2 u (s2.perm.mem_iff.mp hu)
    obtain ⟨n', hn⟩ := hn
    have hb : SrtO.Stb (ltP k) (out.map backV) xs := by
      rw [e1]
      exact SrtO.Stb.map (ltP_swo k) backV s2
    have I1 : Inv X pins σ H { s with heap := h1, toks := tk } := I.kept k1
    refine ⟨.ref d, upd H d (.lst (out.map backV)), I1.laid (t' := tk) k2 hd' ⟨?_, out, n', vals_back h3, hn⟩, rfl, q _ d (SrtO.srtd_map s1) hb (I1.hok.fresh hd')⟩
    rw [hb.len]
    exact hz
/-- sorted(d), d a dict whose keys are ints, any number -/
def rSortedDI : List V → Hp → VK → Prop := fun xs H Q => ∃ (a : Addr) (kvs : List (Key × V)) (ks : List Int), xs = [.ref a] ∧ Rd H a (.dK kvs) ∧ kvs.map (·.1) = ks.map Sum.inl ∧
    ∀ (ys : List Int) (p : Addr), ys.Perm ks → ys.Pairwise (· ≤ ·) → H p = none → Q (.ref p) (upd H p (.lst (ys.map V.int)))
theorem cr_sortedDI (hcalm : X.calm = true) : CallR X (.builtin "sorted") rSortedDI := by
  intro pins s σ H xs us Q I r q
  obtain ⟨a, kvs, ks, ex, hd, hks, q⟩ := q
  subst ex
  obtain ⟨u, eu, rx⟩ := vals1 r
  subst eu
  cases rx
  obtain ⟨z, lo, vs, rel, dd⟩ := dk_rd I.hok hd
  obtain ⟨ep, hat⟩ := dd.dictAt
  have hkeys : vs.map (·.1) = ks.map Sum.inl := rel.keys.symm.trans hks
  have hl : vs.length = ks.length := by
    have e := congrArg List.length hkeys
    rw [List.length_map, List.length_map] at e
    exact e
  have h16 : vs.length ≤ sizeLine := by rw [← rel.length]; exact z
  refine sorted_from (PV := fun acc => IntsAre acc ks) SrtO.swo_int (fun acc hS => by rw [hS.length, ← hl]; exact h16) (fun Q' hq => ?_) (fun acc hS h2 h₁ a' tk ha kk => ?_) fun acc h1 h' d tk out hS s1 s2 k1 k2 hd' hn => ?_
  · refine PySem.W.kdu_collect (A := X.A.in1) (PySem.W.kdl_dict (knd := mixKind X.prog X.w) (kvs := vs) (ep := ep) lo) (I.ok.hd hcalm) hat h16 fun h' tk acc hk hacc => ?_
    have hal : acc.toList.length = ks.length := by rw [Array.length_toList, hacc.1, hl]
    refine hq acc.toList h' tk (ints_each hal fun j v e => ?_) hk
    obtain ⟨k, x, e1, e2⟩ := hacc.2 j v (by rw [← Array.getElem?_toList]; exact e)
    have e3 : (vs.map (·.1))[j]? = some k := by rw [List.getElem?_map, e1]; rfl
    rw [hkeys, List.getElem?_map] at e3
    cases e4 : ks[j]? with
    | none => rw [e4] at e3; cases e3
    | some y =>
      rw [e4] at e3
      have e5 : Sum.inl y = k := Option.some.inj e3
      subst e5
      rcases keyIs_shape (show keyIs (Sum.inl y) v = true from e2) with ⟨i, t, ek, ev⟩ | ⟨z, t, ek, ev⟩
      · cases ek
        exact ⟨y, t, rfl, ev⟩
      · cases ek
  · exact SrtO.ints_sortable hS h2
  · obtain ⟨j1, j2, j3⟩ := SrtO.ints_out hS s1 s2
    obtain ⟨n', hn⟩ := hn
    have I1 : Inv X pins σ H { s with heap := h1, toks := tk } := I.kept k1
    refine ⟨.ref d, upd H d (.lst ((out.map SrtO.iv).map V.int)), I1.laid (t' := tk) k2 hd' ⟨?_, out, n', vals_of_ints j1, hn⟩, rfl, q _ d j2 j3 (I1.hok.fresh hd')⟩
    rw [List.length_map, j2.length_eq, ← hl]
    exact h16
end
end S1

namespace S1
open PySem PySem.Spec PyProof.Rows L2 StX
/-! ### x == y by an own __eq__, whatever y is -/
section
variable {X : Cx} {CX : CXT} {k : Nat} {f C : Addr} {fd : FuncData} {ps : List Str} {sp : Sp} {E : XK}
def rOwnEq (K : PySem.W.Frag) (C : Addr) (sp : Sp) (E : XK) : R2 := fun x y H Q => ∃ a dx fs tb, x = .ref a ∧ H a = some (.ins C dx fs) ∧ TyX K H y tb ∧ PySem.W.notFirst K C tb = true ∧ sp [.ref a, y] H Q E
theorem op_ownEq (F : FnOk X.prog X.w X.K X.mg X.base CX k f fd ps sp) (hr : Room k X.A) (hb : Binds X.K fd ps []) (hx : Passes CX X E)
    (hs : PySem.W.findIn X.K (.ref C) "__eq__" = some (some (.ref f))) (hf : PySem.W.isFn X.K (.ref f) = true) : OpR X (compareOp .Eq) (rOwnEq X.K C sp E) := by
  intro pins s σ H x y v u Q I rx ry h
  obtain ⟨a, dx, fs, tb, rfl, ha, ty, hn, hsp⟩ := h
  cases rx
  obtain ⟨mA, J, _⟩ := ins_get I.hok ha
  obtain ⟨od, J, _⟩ := J.look
  obtain ⟨m, hF⟩ := I.fr
  obtain ⟨P, Z, p, _⟩ := kit_of I ry ty
  show wpAny (model X.prog X.w) X.A (richCompare .Eq (.ref a) u) _ _ _
  refine PySem.W.cmp_K (op := .Eq) (tb := tb) hr.units0 hF I.ok.mod.kin J (Z.ty _ _ I.kIn p) hn hs hf ?_
  refine thn (run_fn (us := [.ref a, u]) (vs := [.ref a, y]) (ds := []) (dvs := []) F hr hb .nil hx I (.cons rfl (.cons ry .nil)) hsp) fun w s' q => ?_
  obtain ⟨z, H', I', rz, q'⟩ := q
  exact cmpBack_of (notimpl_of rz) ⟨z, H', I', rz, q'⟩
/-- len(o) by its own __len__ -/
theorem call_ownLen (F : FnOk X.prog X.w X.K X.mg X.base CX k f fd ps sp) (hr : Room (k + 1) X.A) (hb : Binds X.K fd ps []) (hx : ∀ (pins : List (Addr × Obj)) (σ : L2.St) (H : Hp) (s : Shared) (e : Value) (s' : Shared), Inv X pins σ H s → CX X.stack H s E e s' → False)
    (hs : PySem.W.findIn X.K (.ref C) "__len__" = some (some (.ref f))) (hf : PySem.W.isFn X.K (.ref f) = true) : CallR X (.builtin "len") (rOwnLen C sp E) := by
  intro pins s σ H vs us Q I r h
  obtain ⟨a, dx, fs, rfl, ha, hsp⟩ := h
  obtain ⟨u, rfl, ru⟩ := vals1 r
  cases ru
  obtain ⟨mA, J, _⟩ := ins_get I.hok ha
  obtain ⟨od, J, _⟩ := J.look
  obtain ⟨m, hF⟩ := I.fr
  refine PySem.W.len_K hF I.ok.mod.kin J hs hf ?_
  have hl := F.len _ _ _ _ hsp
  have e0 : Env0 X.prog X.w X.K X.mg X.base X.A.in1 X.stack s H := I.env0.in1
  refine wpAny_call (codeAny_mono (F.run X.A.in1 X.stack s H ⟨[.ref a], []⟩ [.ref a] [.ref a] _ E hr.in1 e0 (by
    have := hb s [.ref a] I.kIn (by simpa using hl)
    simpa using this) (.cons rfl .nil) hsp) fun r s' hq => ?_)
  cases r with
  | error e => exact (hx pins σ H s e s' I hq).elim
  | ok fl =>
    cases fl with
    | ret w =>
      obtain ⟨z, H', I', rz, n, ez, h0, h1, q'⟩ := I.after hq
      subst ez
      obtain ⟨t, rfl⟩ := rz
      exact ⟨⟨h0, h1⟩, .int n, H', I'.tok _, ⟨_, rfl⟩, q'⟩
    | next => exact False.elim hq
    | brk => exact False.elim hq
    | cont => exact False.elim hq
end

/-! ### len(range(n)) -/
section
variable {X : Cx}
theorem cr_range1 : CallR X (.type "range") (fun vs H Q => ∃ j, vs = [V.int j] ∧ ∀ p, H p = none → Q (.ref p) (upd H p (.rng 0 j))) := by
  intro pins s σ H vs us Q I r h
  obtain ⟨j, rfl, q⟩ := h
  obtain ⟨u1, rfl, ri⟩ := vals1 r
  obtain ⟨t, rfl⟩ := ri
  refine call_range_1 ⟨.ref s.heap.objs.size, upd H s.heap.objs.size (.rng 0 j), I.laid (t' := s.toks + 1 + 1) (fun b o e => Heap.get?_push_of_some _ e) (Nat.le_refl _) ?_, rfl, q _ (I.hok.fresh (Nat.le_refl _))⟩
  exact ⟨_, _, _, Heap.get?_push_size _ rfl⟩
def rLenRg : List V → Hp → VK → Prop := fun vs H Q => ∃ p j, vs = [V.ref p] ∧ H p = some (.rng 0 j) ∧ 0 ≤ j ∧ j < 2 ^ 62 ∧ Q (.int j) H
theorem cr_lenRg : CallR X (.builtin "len") rLenRg := by
  intro pins s σ H vs us Q I r h
  obtain ⟨p, j, rfl, hp, h0, h1, q⟩ := h
  obtain ⟨u1, rfl, ri⟩ := vals1 r
  cases ri
  obtain ⟨t, u, v, e⟩ := I.hok p _ hp
  have hn : Builtin.Range.rangeSize 0 j 1 = j := by rw [rangeSize_one]; split <;> omega
  refine call_len_range (n := j.toNat) (a := 0) (b := j) (c := 1) (t := t) (u := u) (v := v) e (by omega) (by omega) ?_
  have e2 : ((j.toNat : Nat) : Int) = j := by omega
  rw [e2]
  exact ⟨.int j, H, I.tok _, ⟨_, rfl⟩, q⟩

/-! ### dicts that are sets of ints -/
def setK (ks : List Int) : List (Key × V) := ks.map fun k => (Sum.inl k, V.bl true)
theorem setK_val (ks : List Int) (k : Int) : valV (setK ks) (Sum.inl k : Key) = if k ∈ ks then some (V.bl true) else none := by
  unfold setK valV
  induction ks with
  | nil => simp
  | cons a r ih =>
    rw [List.map_cons, List.find?_cons]
    by_cases e : a = k
    · subst e; simp
    · have h1 : decide ((Sum.inl a : Key) = Sum.inl k) = false := decide_eq_false fun q => e (Sum.inl.inj q)
      simp only [h1]
      rw [ih]
      have h2 : (k ∈ a :: r) ↔ k ∈ r := by simp [Ne.symm e]
      simp only [h2]
def rEqSet (neg : Bool) : R2 := fun x y H Q => ∃ a b ks ls, x = .ref a ∧ y = .ref b ∧ H a = some (.dK (setK ks)) ∧ H b = some (.dK (setK ls)) ∧ Q (.bl (neg ^^ (ks.length == ls.length && ks.all fun k => decide (k ∈ ls)))) H
theorem hits_set {A : Around} {s : Shared} {ls : List Int} {vb : List (Key × Value)} (rb : KV (setK ls) vb) : ∀ {ks : List Int} {va : List (Key × Value)}, KV (setK ks) va → ∃ r, PySem.W.KeqHits A s vb va r ∧ r = ks.all fun k => decide (k ∈ ls)
  | [], va, ra => by
    unfold KV setK at ra
    rw [List.map_nil] at ra
    cases ra
    exact ⟨true, .nil, rfl⟩
  | k :: ks, va, ra => by
    unfold KV setK at ra
    rw [List.map_cons] at ra
    cases ra with
    | @cons p q ps qs h t =>
      obtain ⟨h1, h2⟩ := h
      obtain ⟨k', v⟩ := q
      have h1' : (Sum.inl k : Key) = k' := h1
      subst h1'
      have hv : v = Value.bool true := h2
      subst hv
      have rr := rb.val (Sum.inl k)
      rw [setK_val] at rr
      obtain ⟨r, hr, er⟩ := hits_set rb (ks := ks) (va := qs) t
      by_cases hm : k ∈ ls
      · rw [if_pos hm] at rr
        obtain ⟨y, hy, ry⟩ := rr.some_of
        have hy' : y = Value.bool true := ry
        subst hy'
        refine ⟨true && r, .hit hy (SeqAt.EqAt.same _) hr, ?_⟩
        rw [er, List.all_cons, decide_eq_true hm]
      · rw [if_neg hm] at rr
        refine ⟨false, .miss rr.none_of, ?_⟩
        rw [List.all_cons, decide_eq_false hm]
        rfl
theorem op_eqSet (hu : X.A.units < cLine) : OpR X (compareOp .Eq) (rEqSet false) := by
  intro pins s σ H x y v u Q I rx ry h
  obtain ⟨a, b, ks, ls, rfl, rfl, ea, eb, q⟩ := h
  obtain rfl : v = Value.ref a := rx
  obtain rfl : u = Value.ref b := ry
  obtain ⟨_, ya, va, ra, da⟩ := (show ObjOk X.prog X.w H s.heap a (.dK (setK ks)) from I.hok a _ ea)
  obtain ⟨_, yb, vb, rb, db⟩ := (show ObjOk X.prog X.w H s.heap b (.dK (setK ls)) from I.hok b _ eb)
  obtain ⟨r, hr, er⟩ := hits_set (A := X.A.in1) (s := s) rb ra
  have l1 : va.length = ks.length := by rw [← ra.length]; exact List.length_map _
  have l2 : vb.length = ls.length := by rw [← rb.length]; exact List.length_map _
  refine PySem.W.keq_eq (knd := mixKind X.prog X.w) (r := r) ya yb da db hu (fun _ => hr) (fin_bl I q ?_)
  rw [l1, l2, er, Bool.false_xor]
/-! ### t[::-1], t a tuple -/
def tRevT (K : PySem.W.Frag) (te : TE) : TE := fun σ H Q => te σ H fun x H1 => ∃ a xs, x = .ref a ∧ SqT K H1 a xs ∧ ∀ p, H1 p = none → Q (.ref p) (upd H1 p (.tup xs.reverse))
end
end S1

namespace S1
open PySem PySem.Spec PyProof.Rows L2 StX
theorem rev_adjust (n : Nat) : Builtin.Slice.sliceAdjust none none (-1) (n : Int) = ((n : Int) - 1, -1) := by
  unfold Builtin.Slice.sliceAdjust
  have h1 : ((-1 : Int) < 0) := by omega
  simp only [h1, if_true]
theorem rev_places (n : Nat) : Builtin.Slice.slicePlaces ((n : Int) - 1) (-1) (-1) = n := by
  unfold Builtin.Slice.slicePlaces
  have h1 : ¬ ((-1 : Int) > 0) := by omega
  simp only [h1, if_false]
  have e : (-(-1) : Int) = 1 := by omega
  rw [e, Int.ediv_one]
  split <;> omega
theorem fm_congr {α β : Type} {f g : α → Option β} : ∀ {l : List α}, (∀ x ∈ l, f x = g x) → l.filterMap f = l.filterMap g
  | [], _ => rfl
  | a :: r, h => by
    rw [List.filterMap_cons, List.filterMap_cons, h a List.mem_cons_self, fm_congr fun x m => h x (List.mem_cons_of_mem _ m)]
theorem rev_pick (xs : List Value) : (List.range xs.length).filterMap (fun (k : Nat) => xs.toArray[((xs.length : Int) - 1 + (k : Int) * (-1)).toNat]?) = xs.reverse := by
  have h1 : (List.range xs.length).filterMap (fun (k : Nat) => xs.toArray[((xs.length : Int) - 1 + (k : Int) * (-1)).toNat]?) = (List.range xs.length).filterMap (fun k => xs.reverse[k]?) := by
    refine fm_congr fun k hk => ?_
    have hk := List.mem_range.mp hk
    rw [List.getElem?_reverse hk, List.getElem?_toArray]
    congr 1
    omega
  rw [h1]
  have h2 := PySem.W.krv_all xs.reverse.toArray
  simpa using h2
section
variable {prog : Program} {w : World} {A : Around} {E : Value → Shared → Prop} {s : Shared}
theorem getItem_tuple_rev {t sl : Addr} {its : List Value} {vl vu vs : Value} {Q : Value → Shared → Prop} (ht : IsTup s.heap t its.toArray) (hs : s.heap.IsSliceOf sl vl vu vs) (pl : IsPart vl none) (pu : IsPart vu none) (ps : IsPart vs (some (-1)))
    (h : Q (.ref s.heap.objs.size) { s with heap := s.heap.push { cls := .type "tuple", data := .seq its.reverse.toArray } })
    (hsz : its.length ≤ sizeLine) : wpAny (model prog w) A (getItem (.ref t) (.ref sl)) Q E s := by
  have htake : sizeOk (.seq its.reverse.toArray) := by
    show its.reverse.toArray.size ≤ sizeLine
    rw [List.size_toArray, List.length_reverse]
    exact hsz
  obtain ⟨os, hos, hcs, hds⟩ := id hs
  have hTs : s.TypeIs (.ref sl) "slice" := ⟨os, hos, hcs⟩
  unfold getItem
  try with_reducible refine wpAny_holding ?_
  first | refine wpAny_bind (wpAny_pure ?_) | skip
  refine wpAny_bind (wpAny_sequenceKey ht.typeIs (by decide) ?_)
  refine wpAny_bind (wpAny_callSpecial?_slot (name := Str.ofString "__getitem__") ht.typeIs PyProof.Rows.slot_tuple_getitem
    (wpAny_call_entry PyProof.Rows.slot_tuple_getitem ht.typeIs entry_tuple_getitem ?_ (args_tuple_getitem _ _)))
  show wpAny _ _ (Builtin.Tuple.tupleItemsOf (.ref t) >>= _) _ _ s
  refine wpAny_bind (tupleItemsOf_ ht ?_)
  refine wpAny_bind (wpAny_typeOf hTs ?_)
  rw [if_pos (by decide)]
  refine wpAny_bind ?_
  unfold Builtin.Slice.sliceApplied Builtin.Slice.sliceFields
  refine wpAny_bind (wpAny_bind (wpAny_field hos hds (x := vl) rfl (wpAny_bind (wpAny_field hos hds (x := vu) rfl (wpAny_bind (wpAny_field hos hds (x := vs) rfl (wpAny_pure ?_)))))))
  refine wpAny_bind (HT.slicePart_ ps ?_)
  show wpAny _ _ (if ((-1 : Int) == 0) = true then _ else _) _ _ s
  rw [if_neg (by decide)]
  refine wpAny_bind (HT.slicePart_ pl (wpAny_bind (HT.slicePart_ pu (wpAny_bind (wpAny_pure ?_)))))
  show wpAny _ _ (match Builtin.Slice.sliceAdjust none none (-1) ((its.toArray.size : Nat) : Int) with | (lo, hi) => pure (lo, (-1 : Int), Builtin.Slice.slicePlaces lo hi (-1))) _ _ s
  rw [List.size_toArray, rev_adjust]
  show wpAny _ _ (pure (((its.length : Int) - 1), (-1 : Int), Builtin.Slice.slicePlaces ((its.length : Int) - 1) (-1) (-1))) _ _ s
  rw [rev_places]
  refine wpAny_pure ?_
  show wpAny _ _ (if ((((its.length : Int) - 1) == 0 && (-1 : Int) == 1 && its.length == its.toArray.size) = true) then _ else _) _ _ s
  rw [if_neg (by simp)]
  show wpAny _ _ ((Builtin.Tuple.tupleExact ((List.range its.length).filterMap fun (k : Nat) => its.toArray[((its.length : Int) - 1 + (k : Int) * (-1)).toNat]?).toArray) >>= fun v => ret v) _ _ s
  rw [rev_pick]
  first
    | exact wpAny_bind (m := Builtin.Tuple.tupleExact _) (wpAny_newObj_type (wpAny_pure ⟨_, rfl, wpAny_pure h⟩) htake)
    | exact wpAny_bind (m := Builtin.Tuple.tupleExact _) (wpAny_newObj_type (wpAny_bind (wpAny_pure (wpAny_pure ⟨_, rfl, wpAny_pure h⟩))) htake)
    | exact wpAny_bind (wpAny_bind (m := Builtin.Tuple.tupleExact _) (wpAny_newObj_type (wpAny_pure (wpAny_pure ⟨_, rfl, wpAny_pure h⟩)) htake))
    | exact wpAny_bind (wpAny_bind (m := Builtin.Tuple.tupleExact _) (wpAny_newObj_type (wpAny_pure ⟨_, rfl, wpAny_pure h⟩) htake))
end
section
variable {X : Cx}
theorem pe_revT {e : Expr} {te : TE} {k : Nat} {p1 p2 p3 pos : Pos} (he : PE X e te) : PE X (.Subscript e (.Slice none none (some (.UnaryOp .USub (.Constant (.int 1) k p1) p2)) p3) pos) (tRevT X.K te) := by
  refine ⟨fun pins s σ H Q I h => ?_⟩
  refine Subscript_ (thn (he.run pins s σ H _ I h) fun v s1 ⟨x, H1, I1, r1, q1⟩ => ?_)
  obtain ⟨a, xs, ex, hx, q⟩ := q1
  subst ex
  cases r1
  have hst : PO X (some (.UnaryOp .USub (.Constant (.int 1) k p1) p2)) (tPart (tUn (rU fun i => .int (-i)) (tC (.int 1)))) := po_some (pe_un un_neg pe_int)
  refine wpAny_Slice (thn (po_none.run pins s1 σ H1 (fun o H2 => o = none ∧ H2 = H1) I1 ⟨rfl, rfl⟩) fun vl s2 ⟨l, H2, I2, pl, el, e2⟩ => ?_)
  subst el e2
  refine thn (po_none.run pins s2 σ H2 (fun o H3 => o = none ∧ H3 = H2) I2 ⟨rfl, rfl⟩) fun vu s3 ⟨u, H3, I3, pu, eu, e3⟩ => ?_
  subst eu e3
  refine thn (hst.run pins s3 σ H3 (fun o H4 => o = some (-1) ∧ H4 = H3) I3 ⟨1, rfl, -1, rfl, rfl, rfl⟩) fun vs s4 ⟨o, H4, I4, ps, eo, e4⟩ => ?_
  subst eo e4
  have I5 : Inv X pins σ H4 { s4 with heap := s4.heap.push { cls := .type "slice", data := .fields #[vl, vu, vs] } } := I4.kept (t' := s4.toks) fun b ob q => Heap.get?_push_of_some _ q
  obtain ⟨its, r, ht, hz⟩ := I5.tuple hx
  have hlen := r.length
  show wpAny (model X.prog X.w) X.A (subscriptTail e (.Slice none none (some (.UnaryOp .USub (.Constant (.int 1) k p1) p2)) p3) (.ref a) (.ref s4.heap.objs.size)) (EP X pins σ Q) X.xe { s4 with heap := s4.heap.push { cls := .type "slice", data := .fields #[vl, vu, vs] } }
  refine tail_any (ops := [.ref a, .ref s4.heap.objs.size]) ht.typeIs (PyProof.Rows.slot_tuple_getitem.lookup) ?_ (by with_unfolding_all rfl)
  refine getItem_tuple_rev ht (Heap.IsSliceOf.new _ vl vu vs) pl pu ps ?_ (by omega)
  refine ⟨.ref _, _, I5.laid (t' := s4.toks) (o := .tup xs.reverse) (fun b ob q => Heap.get?_push_of_some _ q) (Nat.le_refl _) ?_, rfl, q _ (I5.hok.fresh (Nat.le_refl _))⟩
  exact ⟨by rw [List.length_reverse]; exact hz, _, r.reverse, IsTup.new _ _⟩
end
end S1

/-! An exception that is caught and kept behind its suite. -/
namespace S1
open PySem PySem.Spec PyProof.Rows L2 StX
/-- an exception object of the class cls, its dict d, at a: caught, in no flight -/
def ExK (cls : Value) (d : Option Addr) (a : Addr) : HO := .ext fun h => ∃ (oe : Obj) (vs : Array Value), h.get? a = some oe ∧ Zc cls d oe ∧ oe.data = .fields vs
theorem exK_ok {P : Program} {w : World} {H : Hp} {h : Heap} {a : Addr} {cls : Value} {d : Option Addr} {oe : Obj} {vs : Array Value} (e : h.get? a = some oe) (z : Zc cls d oe) (dd : oe.data = .fields vs) : ObjOk P w H h a (ExK cls d a) :=
  ⟨⟨oe, vs, e, z, dd⟩, ⟨oe, e⟩, fun h1 h2 ⟨oe', vs', q1, q2, q3⟩ k => ⟨oe', vs', k _ q1, q2, q3⟩⟩
theorem inv_keepX {X : Cx} {pins : List (Addr × Obj)} {σ : L2.St} {H : Hp} {s : Shared} {a : Addr} {cls : Value} {d : Option Addr} {oe : Obj} {vs : Array Value} (I : Inv X pins σ H s) (ha : s.heap.get? a = some oe) (hz : Zc cls d oe) (hd : oe.data = .fields vs) (na : H a = none)
    (n0 : X.s_0.heap.get? a = none) (nL : a ≠ X.env.locals) (np : ∀ p ∈ X.pn ++ pins, p.1 ≠ a) : Inv X pins σ (upd H a (ExK cls d a)) s := by
  refine ⟨I.ok, I.os, I.bare, ⟨I.base.keep, I.base.slot, fun b o e n hx => ?_, I.base.there, fun b xs q => ?_, fun b o u q => ?_, fun b ps q => ?_⟩, I.loc, I.cell, ?_, fun x c e => ?_, fun p hp => ?_, HOk.laidN I.hok (fun _ _ e => e) na (exK_ok ha hz hd), I.len⟩
  · rw [upd_ne (fun z => by rw [z, n0] at e; cases e)]
    exact I.base.free b o e n hx
  · have r := I.base.tups b xs q
    rw [upd_ne (ne_of_none r na)]
    exact r
  · have r := I.base.frzs b o u q
    rw [upd_ne (ne_of_none r na)]
    exact r
  · obtain ⟨m, r⟩ := I.base.tbls b ps q
    exact ⟨m, by rw [upd_ne (ne_of_none r na)]; exact r⟩
  · rw [upd_ne nL.symm]
    exact I.free
  · obtain ⟨v, o, ho, hc⟩ := I.cell x c e
    rw [upd_ne (fun z => by rw [z, ha] at ho; cases ho; rw [hd] at hc; cases hc)]
    exact I.freeC x c e
  · obtain ⟨e1, e2, e3, e4, e5⟩ := I.pin p hp
    exact ⟨e1, by rw [upd_ne (np p hp)]; exact e2, e3, e4, e5⟩
theorem sky_new {B : Heap} {l : List Env} {a L : Addr} {Z : Obj → Prop} {h : Heap} (s : Sky B l a Z L h) : B.get? a = none := by
  rcases s with s | s | s
  · exact s.2.1
  · exact s.2.1
  · exact s.2.1
/-- what 'except x as n' wishes of the body's exception, where it catches it and the exception is kept behind the suite -/
def wKeep (K : PySem.W.Frag) (c : Value) (i : Nat) (ts : Addr → Value → Option Addr → TS) (D : Ends) : WX := fun cls d σ H => PySem.W.exmOne K cls c = some true ∧ ∀ a, H a = none → ts a cls d
  { nx := fun σ' H' => H' a = none → D.nx (σ'.set i none) (upd H' a (ExK cls d a)), rt := fun v H' => H' a = none → D.rt v (upd H' a (ExK cls d a)), bk := fun σ' H' => H' a = none → D.bk (σ'.set i none) (upd H' a (ExK cls d a)), ct := fun σ' H' => H' a = none → D.ct (σ'.set i none) (upd H' a (ExK cls d a)) } (σ.set i (some (.ref a))) H
section
variable {X : Cx} {x n : Str} {c : Value} {i : Nat} {body suite : List Stmt} {b₀ : Stmt} {np pos pos' : Pos} {tb : WX → TS} {ts : Addr → Value → Option Addr → TS}
theorem ps_try_keep (stk : X.stack = X.env :: X.outer) (frm : X.env.frame = some X.env.locals) (nod : X.N.Nodup) (hi : X.N[i]? = some n) (loc : X.env.kindOf n = some .local) (nam : Names X x c) (exn : X.ex = [])
    (hb : ∀ (W : WX) (pn : List (Addr × Obj)) (xe : Value → Shared → Prop), Takes (X.tr pn xe) W → PassesOwn (model X.prog X.w) X.A X.env xe → PSs (X.tr pn xe) body (tb W))
    (sui : ∀ (a : Addr) (oe : Obj) (cls : Value) (d : Option Addr) (pn : List (Addr × Obj)), Zc cls d oe → (∃ vs, oe.data = .fields vs) → PSs (X.suite a ((a, oe) :: pn)) (b₀ :: suite) (ts a cls d)) :
    PS X (.Try body [.ExceptHandler (some (.Name x np)) (some n) (b₀ :: suite) pos'] [] [] pos) (fun D σ H => tb (wKeep X.K c i ts D) D σ H) := by
  refine ⟨fun pins s σ H D I wish => ?_⟩
  have ok := I.ok
  have frs_ : X.A.frames = some (X.env :: X.outer) := by rw [ok.frames, stk]
  refine wpAny_Try_except ?_
  refine wpAny_mono ((hb (wKeep X.K c i ts D) (X.pn ++ pins) (fun u t1 => wpAny (model X.prog X.w) X.A (noteFrame u X.env) (fun _ t2 => wpAny (model X.prog X.w) X.A (setFlight u none) (fun _ t3 => wpAny (model X.prog X.w) X.A (handleBy u X.env [.ExceptHandler (some (.Name x np)) (some n) (b₀ :: suite) pos']) (SP X pins D) X.xe t3) X.xe t2) X.xe t1) (fun u t xx => ?_) PassesOwn.looking).run [] s σ H D (I.toTry _) wish) (fun f t1 got => ?_) (fun _ _ z => z)
  · obtain ⟨a, B, sI, pins', τ, G, cls, d, rfl, Jt, nb, up, sky, na, os, ag, hit, yes⟩ := xx
    have J : Inv X pins τ G sI := Jt.ofTry ok
    have newB := sky_new sky
    have sky1 : Sky B (X.env :: X.outer) a (Zc cls d) X.env.locals t.heap := by rw [← stk]; exact sky
    show wpAny (model X.prog X.w) X.A (noteFrame (.ref a) X.env) _ _ _
    refine Sky.land Zc.steady frs_ frm sky1 fun h3 fl3 up3 => ?_
    have J3 : Inv X pins τ G { t with heap := h3 } := J.landed nb fl3.1 (up.trans up3) os ag
    obtain ⟨o3, vs3, at3, z3, d3⟩ := fl3.there
    have offFr : a ∉ frs (X.env :: X.outer) := fun hm => by
      obtain ⟨_, o', e', hnf⟩ := fl3.2.2.1.mem hm
      rw [at3] at e'
      cases e'
      exact hnf _ d3
    have newI : sI.heap.get? a = none := by
      cases q : sI.heap.get? a with
      | none => rfl
      | some o =>
        have := nb a o q (by rw [stk]; exact offFr)
        rw [newB] at this
        cases this
    have new0 : X.s_0.heap.get? a = none := by
      cases q : X.s_0.heap.get? a with
      | none => rfl
      | some o =>
        obtain ⟨o', e'⟩ := J.base.there a o q (by rw [exn]; exact fun z => nomatch z)
        rw [newI] at e'
        cases e'
    have offPn : ∀ p ∈ X.pn ++ pins, p.1 ≠ a := fun p hp z => by
      have := (J.pin p hp).1
      rw [z, newI] at this
      cases this
    have offL : a ≠ X.env.locals := fun z => offFr (List.mem_filterMap.mpr ⟨X.env, List.mem_cons_self, by rw [frm, z]⟩)
    have offF : a ∉ X.fs := fun hm => by
      obtain ⟨e, he, q⟩ := List.mem_filterMap.mp hm
      exact offFr (List.mem_filterMap.mpr ⟨e, List.mem_cons_of_mem _ he, q⟩)
    have S3 := J3.suite at3 d3 na offL offF
    refine wpAny_handleBy_cons (codeAny_handlers_test ?_) (by intro q; cases q)
    have LM := PySem.W.exm_one (M := model X.prog X.w) (J3.kIn) (show PySem.W.Looks (model X.prog X.w) h3 (typeOf (.ref a)) cls from fun A Q E s k q => wpAny_typeOf_ref (k _ _ at3) (by rw [z3.1]; exact q)) hit
    have look : ∀ {Q : Value → Shared → Prop} {E : Value → Shared → Prop}, Q c { t with heap := h3 } → wpAny (model X.prog X.w) (X.A.mark (some (.ref a))) (eval (.Name x np) X.env) Q E { t with heap := h3 } := fun {Q E} q => by
      obtain ⟨hg, hdbg, hm | ⟨hm, hv, hnn⟩⟩ := nam
      · exact ld_glob (X := X.suite a ((a, o3) :: (X.pn ++ pins))) S3 hg hm q hdbg
      · exact ld_blt (X := X.suite a ((a, o3) :: (X.pn ++ pins))) S3 hg hm hv q hnn hdbg
    refine look (LM.here ?_)
    refine codeAny_handlers_suite_as ?_
    refine HandSPX.lands_againZ fl3 fun h4 fl4 up4 => ?_
    obtain ⟨o4, vs4, at4, z4, d4⟩ := fl4.there
    have S4 := (J.landed nb fl4.1 ((up.trans up3).trans up4) os ag : Inv X pins τ G { t with heap := h4 }).suite at4 d4 na offL offF
    refine store_ok (X := X.suite a ((a, o4) :: (X.pn ++ pins))) (v := .ref a) S4 nod hi (.inl loc) rfl (fun s5 S5 => ?_) (.inr loc)
    refine wpAny_mono ((sui a o4 cls d (X.pn ++ pins) z4 ⟨_, d4⟩).run [] s5 _ G _ S5 (yes a na)) (fun f s6 got => ?_) (fun _ _ z => False.elim z)
    have fin : ∀ {σ6 : L2.St} {H6 : Hp} {Q : Shared → Prop}, Inv (X.suite a ((a, o4) :: (X.pn ++ pins))) [] σ6 H6 s6 → (H6 a = none → ∀ s7, Inv X pins (σ6.set i none) (upd H6 a (ExK cls d a)) s7 → Q s7) →
        wpAny (model X.prog X.w) X.A (do bindName X.env n .none; unbindBehindTheSuite X.env n pos') (fun _ s7 => Q s7) X.xe s6 := fun {σ6 H6 Q} S6 hq => by
      obtain ⟨p1, p2, p3, p4, _⟩ := S6.pin (a, o4) (List.mem_append_left _ List.mem_cons_self)
      exact gone_ok (inv_keepX (S6.unsuite ok) p1 z4 d4 p2 new0 offL offPn) nod hi loc (hq p2)
    cases f with
    | next =>
      obtain ⟨σ6, H6, S6, q6⟩ := got
      exact fin S6 fun n6 s7 J7 => ⟨_, _, J7, q6 n6⟩
    | brk =>
      obtain ⟨σ6, H6, S6, q6⟩ := got
      exact fin S6 fun n6 s7 J7 => ⟨_, _, J7, q6 n6⟩
    | cont =>
      obtain ⟨σ6, H6, S6, q6⟩ := got
      exact fin S6 fun n6 s7 J7 => ⟨_, _, J7, q6 n6⟩
    | ret u =>
      obtain ⟨v6, σ6, H6, S6, r6, q6⟩ := got
      exact fin S6 fun n6 s7 J7 => ⟨_, _, _, J7, r6, q6 n6⟩
  · cases f with
    | next =>
      obtain ⟨τ, G, Jt, q⟩ := got
      exact wpAny_execs_nil ⟨τ, G, Jt.ofTry ok, q⟩
    | brk =>
      obtain ⟨τ, G, Jt, q⟩ := got
      exact ⟨τ, G, Jt.ofTry ok, q⟩
    | cont =>
      obtain ⟨τ, G, Jt, q⟩ := got
      exact ⟨τ, G, Jt.ofTry ok, q⟩
    | ret u =>
      obtain ⟨v, τ, G, Jt, r, q⟩ := got
      exact ⟨v, τ, G, Jt.ofTry ok, r, q⟩
end
end S1

/-! isinstance and fields of an exception that is kept. -/
namespace S1
section
open PySem PySem.W PySem.Spec PySem.Calls PyProof.Rows
variable {prog : Program} {w : World} {A : Around} {E : Value → Shared → Prop} {s : Shared} {K : Frag} {x D : Addr} {ox : Obj} {dt : Option Obj}
theorem findObj_desc {C : Addr} {name : Str} {a g : Value} (k : (clsIn K C).isSome = true) (k1 : findIn K (.ref C) name = some (some a)) (k2 : specialIn K a "__get__" = some (some g)) (k3 : takesIn K a = some true) : findObj K C dt name = some (.bind g a) := by
  obtain ⟨cd, k⟩ := Option.isSome_iff_exists.mp k
  unfold findObj; rw [k, Option.bind_some, k1, Option.bind_some]
  simp [k2, k3]
theorem kin_classX (C : L2.ExcC K D) {Q : Option Value → Shared → Prop} (X : K.In s.heap) (I : InstAt s.heap x ox D dt) (h : Q (some (.ref D)) { s with toks := s.toks + 1 }) : wpAny (model prog w) A (getAttr? (.ref x) "__class__") Q E s := by
  have fnd : findObj K D dt "__class__" = some (.bind (.builtin "getset_descriptor.__get__") (.builtin "object.__class__")) := findObj_desc (by obtain ⟨cd, hc, _⟩ := any_some C.hd; rw [hc]; rfl) C.ha C.hn C.ht
  obtain ⟨hp, g, d, t, os⟩ := s
  have T0 := I.type (M := model prog w)
  have T1 := looks_findIn (M := model prog w) X C.hg
  have T2 := looks_findIn (M := model prog w) X C.hk
  have T3 := looks_find (M := model prog w) X I fnd
  have isB : Looks (model prog w) hp (isInstance (.ref x) (.type "BaseException")) true := T0.andThen (looks_subIn X C.hs)
  have nb : (Value.builtin "BaseException.__getattribute__" == Value.builtin "object.__getattribute__") = false := by decide +kernel
  have nb1 : (onTheHeap (Value.ref D) && Value.builtin "BaseException.__getattribute__" == Value.builtin "object.__getattribute__") = false := by rw [nb]; rfl
  unfold getAttr? getAttrBy? getAttrBy; refine wpAny_bind (wpAny_mkText (wpAny_bind (wpAny_attempt (wpAny_holding (wpAny_bind (T0.at (wpAny_bind (T1.at ?_))))))))
  show wpAny _ _ (if (onTheHeap (Value.ref D) && Value.builtin "BaseException.__getattribute__" == Value.builtin "object.__getattribute__") = true then _ else _) _ _ _; rw [nb1, if_neg Bool.false_ne_true]
  unfold getAttrByItsOwn hookBefore; refine wpAny_bind ?_
  rw [if_pos (show onTheHeap (Value.ref D) = true from rfl)]; refine T2.at ?_
  refine wpAny_bind (wpAny_attempt (wpAny_holding ?_)); unfold callGetattribute
  rw [show (false && onTheHeap (Value.builtin "BaseException.__getattribute__")) = false from rfl, if_neg Bool.false_ne_true]
  unfold boundAndCalled; rw [PySem.F.excAttr_ValueError.ga.bind (.ref x)]
  refine wpAny_bind (wpAny_pure ?_); show wpAny _ _ (call (.builtin "BaseException.__getattribute__") [.ref x, .str "__class__" t]) _ _ _
  refine wpAny_call (codeAny_call_builtin PySem.F.excAttr_ValueError.ga.plain PySem.F.entry_bexc_ga (@check_slot (model prog w) _ _ ⟨hp, g, d, t + 1, os⟩ "BaseException.__getattribute__" "BaseException" "__getattribute__" (.ref x) [.str "__class__" t] [] _ (by decide +kernel) (by decide +kernel) isB (PySem.F.args_bexc_ga (.ref x) (.str "__class__" t)) ?_))
  unfold Builtin.«object.__getattribute__»; refine wpAny_bind (wpAny_of_eq (a := ((Value.ref x : Value), [Value.str "__class__" t])) (by first | rfl | (simp only [slotArgs]; rfl)) ?_)
  refine wpAny_bind (wpAny_pure (wpAny_bind (T0.at (wpAny_bind (T3.at ?_)))))
  show wpAny _ _ (holding [Value.builtin "object.__class__"] (call (.builtin "getset_descriptor.__get__") [.builtin "object.__class__", .ref x, .ref D]) >>= ret) _ _ _; refine wpAny_bind (wpAny_holding (wpAny_call (class_get (s := ⟨hp, g, d, t + 1, os⟩) (ox := ox) (od := dt) X I C.hm ?_)))
  refine wpAny_pure ?_; show wpAny _ _ (handedOut (.ref D)) _ _ _
  rw [handedOut_of (v := .ref D) rfl]
  first
    | exact wpAny_pure (wpAny_pure h)
    | exact wpAny_pure h
    | exact wpAny_pure (wpAny_bind (wpAny_pure (wpAny_pure h)))
theorem kitx_kept (C : L2.ExcC K D) : KitX K (.ref x) (.ref D) (fun h => InstAt h x ox D dt) where
  ty := fun _ _ _ I => I.type
  it := fun _ _ X _ => by
    obtain ⟨cd, hc, _⟩ := any_some C.hd
    unfold clsIn at hc
    split at hc
    · rename_i _ _ _ _ at_
      intro A' Q' E' s' k q
      unfold isType loadHead
      exact wpAny_bind (wpAny_loadPart (k _ _ (X _ _ at_)) (wpAny_pure q))
    · cases hc
  ne := fun h tp dd its n sl X htp => by
    obtain ⟨cd, hc, _⟩ := any_some C.hd
    refine Bool.eq_false_iff.mpr fun q => ?_
    obtain rfl : D = tp := Value.ref.inj (beq_iff_eq.mp q)
    unfold clsIn at hc
    split at hc
    · rename_i _ _ _ _ at_
      cases (X _ _ at_).symm.trans htp
    · cases hc
  ca := fun X I k => kin_classX C X I k
end
open PySem PySem.Spec PyProof.Rows L2 StX
/-- where such an exception stands, with its dict -/
theorem inst_kept {X : Cx} {pins : List (Addr × Obj)} {σ : L2.St} {H : Hp} {s : Shared} {a C : Addr} {dd : Addr} {fs : List (Str × V)} (I : Inv X pins σ H s) (e : H a = some (ExK (.ref C) (some dd) a)) (ed : H dd = some (.xd fs)) :
    ∃ (oe od : Obj) (mA : Str → Option Value), PySem.W.InstAt s.heap a oe C (some od) ∧ (∀ f, PySem.W.lookIn f od = some (mA f)) ∧ ∀ f, RelO (fs.lookup f) (mA f) := by
  obtain ⟨⟨oe, vs, ha, hz, hd⟩, _⟩ := (show ObjOk X.prog X.w H s.heap a (ExK (.ref C) (some dd) a) from I.hok a _ e)
  obtain ⟨mA, hns, hr⟩ := (show ObjOk X.prog X.w H s.heap dd (.xd fs) from I.hok dd _ ed)
  obtain ⟨od, ho, hl⟩ := lookIn_ns hns
  exact ⟨oe, od, mA, ⟨ha, hz.1, by unfold PySem.W.notCls; rw [hd] <;> rfl, by rw [hz.2]; exact ho⟩, hl, hr⟩
/-- isinstance(x, c), x such an exception -/
def rIsX (K : PySem.W.Frag) : List V → Hp → VK → Prop := fun xs H Q => ∃ (a C dd : Addr) (fs : List (Str × V)) (c : V) (u : Value) (b : Bool), xs = [.ref a, c] ∧ (∀ z, RelV c z → z = u) ∧ ExcC K C ∧ H a = some (ExK (.ref C) (some dd) a) ∧ H dd = some (.xd fs) ∧ PySem.W.kitOne K (.ref C) u = some b ∧ Q (.bl b) H
theorem call_isX {X : Cx} : CallR X (.builtin "isinstance") (rIsX X.K) := by
  intro pins s σ H xs us Q I r h
  obtain ⟨a, C, dd, fs, c, u, b, rfl, hc, T, e, ed, ek, q⟩ := h
  obtain ⟨u1, u2, rfl, r1, r2⟩ := vals2 r
  obtain rfl : u1 = Value.ref a := r1
  obtain rfl := hc _ r2
  obtain ⟨oe, od, mA, J, _, _⟩ := inst_kept I e ed
  exact PySem.W.kia_one (kitx_kept T) I.kIn J ek (fun z => nomatch z) fun tk => ⟨.bl b, H, I.kept (t' := tk) fun _ _ z => z, rfl, q⟩
/-- x.f -/
def tXk (K : PySem.W.Frag) (f : Str) (te : TE) : TE := fun σ H Q => te σ H fun x H1 => ∃ (a C dd : Addr) (fs : List (Str × V)) (v : V), x = .ref a ∧ XfC K C ∧ PySem.W.findIn K (.ref C) f = some none ∧ H1 a = some (ExK (.ref C) (some dd) a) ∧ H1 dd = some (.xd fs) ∧ fs.lookup f = some v ∧ Q v H1
theorem pe_xk {X : Cx} {e : Expr} {te : TE} {pos : Pos} {n : Str} (he : PE X e te) (hb : attributeBase e n X.env (eval e X.env) = eval e X.env := by rfl) : PE X (.Attribute e n pos) (tXk X.K n te) := by
  refine ⟨fun pins s σ H Q I h => ?_⟩
  refine attr_of hb (thn (he.run pins s σ H _ I h) fun u s1 hh => ?_)
  obtain ⟨x, H1, I1, rx, a, C, dd, fs, v, rfl, T, no, ea, ed, l, q⟩ := hh
  obtain rfl : u = Value.ref a := rx
  obtain ⟨oe, od, mA, J, hl, hr⟩ := inst_kept I1 ea ed
  obtain ⟨u, hu, ru⟩ := RelO.some_of (v := v) (o := mA n) (by rw [← l]; exact hr n)
  exact HandSPX.exc_get I1.kIn J T.ga T.gg T.exC (PySem.W.findObj_own T.hdC no rfl (by rw [hl, hu])) (handed_of ru) ⟨v, H1, I1.tok _, ru, q⟩
end S1

/-! Defs that are called where no repr is under way (A.guards = some []). -/
namespace S1
open PySem PySem.Spec PyProof.Rows L2 StX
structure FnG (P : Program) (w : World) (K : PySem.W.Frag) (mg : Str → Option Value) (base : Heap) (CX : CXT) (k : Nat) (f : Addr) (fd : FuncData) (ps : List Str) (sp : Sp) : Prop where
  len : ∀ vs H Q E, sp vs H Q E → vs.length = ps.length
  run : ∀ (A : Around) (outer : List Env) (s : Shared) (H : Hp) (args : Args) (us : List Value) (vs : List V) (Q : VK) (E : XK), A.guards = some [] → Room k A → Env0 P w K mg base A outer s H → BindsTo s fd args (ps.zip us) → Vals vs us → sp vs H Q E →
    codeAny (model P w) A (.call (.ref f) args) (CR CX outer P w H s Q E) s
/-- a def's own promise, where the room it runs in has no repr under way -/
theorem fnG_of {CX : CXT} {P : Program} {w : World} {K : PySem.W.Frag} {mg : Str → Option Value} {base : Heap} {x qual : Str} {params : Arguments} {body : List Stmt} {scope : Scope} {f : Addr} {fd : FuncData} {N ps : List Str} {k : Nat} {sp : Sp}
    (F : FunD K x qual params body scope [] [] f fd) (S : FnScope N ps scope) (len : ∀ vs H Q E, sp vs H Q E → vs.length = ps.length)
    (hbody : ∀ (cdv : Value) (A : Around) (outer : List Env) (s : Shared) (H : Hp) (vs : List V) (Q : VK) (E : XK), A.guards = some [] → Room k (A.deeper (envOfC qual scope s.heap.objs.size f cdv)) → sp vs H Q E →
      ∃ t, PSs (cxOf CX P w K mg base N qual scope f cdv A outer s H E) body t ∧ t { nx := fun _ H' => Q .non H', rt := Q } (L2.start N vs) H) : FnG P w K mg base CX (k + 1) f fd ps sp := by
  obtain ⟨oc, od, dV, kV, doc, pm, an, cdv, ct, osl, rfl, lk, hcd, _, _⟩ := F.ex
  refine ⟨len, fun A outer s H args us vs Q E gd room e0 bnd rel wish => ?_⟩
  have old : ∀ {b o}, base.get? b = some o → s.heap.get? b = some o := fun {b o} e => (e0.bs b o e).1
  have KX : K.In s.heap := e0.mod.kin.keeps fun b o e => old e
  refine codeAny_call_function room.depth (KX _ _ lk) rfl S.co S.gen rfl (PySem.W.codeRec_of KX hcd) (bnd _ _ _ _ ?_)
  refine wpAny_newFunctionEnv_cells S.kind (fun y hy => ?_) fun env he s1 x => ?_
  · exact (S.par y.1 (List.of_mem_zip hy).1).elim .inl fun q => .inr ⟨q, PySem.W.cellsFrom_some _ _ _ (.inl q)⟩
  · subst he
    obtain ⟨t, ht, hq⟩ := hbody cdv A outer s H vs Q E gd (room.deeper _) wish
    have I0 := inv_start (CX := CX) (E := E) (ps := ps) (us := us) S room.hd e0 (len _ _ _ _ wish) rel x
    refine ⟨(e0.mod.nolimit.keeps fun b o e => old e).keeps x.toInCall.keep, codeAny_func (wpAny_mono (ht.run [] s1 (L2.start N vs) H _ I0 hq) (fun fl s' hs => ?_) fun e s' hs => hs)⟩
    cases fl with
    | ret u =>
      obtain ⟨v, τ, G, J, rv, q⟩ := hs
      exact ⟨v, G, J.os, J.bare, J.base, J.hok, rv, q⟩
    | next =>
      obtain ⟨τ, G, J, q⟩ := hs
      exact ⟨V.non, G, J.os, J.bare, J.base, J.hok, rfl, q⟩
    | brk => exact False.elim (show False from hs.elim fun _ h => h.elim fun _ h => h.2)
    | cont => exact False.elim (show False from hs.elim fun _ h => h.elim fun _ h => h.2)
section
variable {X : Cx} {CX : CXT} {k : Nat} {f : Addr} {fd : FuncData} {ps : List Str} {sp : Sp} {E : XK} {x : Str} {p pos : Pos} {e : Expr} {es : List Expr} {t : TA}
theorem pe_callG (F : FnG X.prog X.w X.K X.mg X.base CX k f fd ps sp) (gd : X.A.guards = some []) (hr : Room k X.A) (hg : Gl X x) (hm : X.mg x = some (.ref f)) (hk : PySem.W.keepIn X.K (.ref f) = true) (hb : Binds X.K fd ps []) (hx : Passes CX X E)
    (ha : PA X (e :: es) t) (hdb : (x == ("__debug__" : Str)) = false := by decide) (he : starEach (e :: es) X.env = (false, eval e X.env) :: starEach es X.env := by rfl) (hpl : (backTo pos (starEach es X.env)).any (·.1) = false := by rfl) :
    PE X (.Call (.Name x p) (e :: es) [] pos) (tCall sp [] E t) := by
  refine ⟨fun pins s σ H Q I h => wpAny_Call_Name_kw (ld_glob I hg hm ?_ hdb)⟩
  refine PySem.W.callWith_K (h₀ := X.base) I.ok.mod.kin hk (thn (ha.run pos pins s σ H _ I h) fun us s1 ⟨vs, H1, I1, r, q⟩ => ⟨I1.kIn, ?_⟩) he hpl
  have r2 : Vals (vs ++ []) (us ++ []) := r.append .nil
  refine wpAny_call (codeAny_mono (F.run X.A X.stack s1 H1 ⟨us, []⟩ (us ++ []) (vs ++ []) Q E gd hr I1.env0 (hb s1 us I1.kIn (by rw [← r2.length]; exact F.len _ _ _ _ q)) r2 q) fun z s' hq => ?_)
  cases z with
  | error u => exact hx pins σ H1 s1 u s' I1 hq
  | ok fl =>
    cases fl with
    | ret u => exact I1.after hq
    | next => exact False.elim hq
    | brk => exact False.elim hq
    | cont => exact False.elim hq
end
end S1

/-! The head for a law whose def is called where no repr is under way. -/
namespace S1
open PySem PySem.Spec PyProof.Rows L2 StX
/-- the heap as the law meets it: at most the script is tracked -/
theorem first_heap {P : Program} {w : World} {K : PySem.W.Frag} {h : Heap} {a : Addr} {vs : List Value} {ns : List Int} (KX : K.In h) (ha : h.get? a = some { cls := .type "list", data := .seq vs.toArray }) (hi : IntsAre vs ns) (hl : ns.length ≤ sizeLine) :
    ∃ H : Hp, Only H ∧ SqL K H a (ns.map V.int) ∧ HOk P w H h ∧ ∀ b u, H b = some u → b = a ∧ K.lookup a = none := by
  have rv := vals_ints hi
  cases hk : K.lookup a with
  | some o =>
    have e := KX a o hk
    rw [ha] at e
    cases e
    exact ⟨fun _ => none, fun _ => .inl rfl, .inr ⟨_, vs.toArray, _, hk, rfl, rfl, rfl, by rw [List.size_toArray, hi.length]; exact hl, by simpa using rv⟩, fun b u z => (nomatch (show (none : Option HO) = some u from z)), fun b u z => (nomatch (show (none : Option HO) = some u from z))⟩
  | none =>
    let o : Obj := { cls := .type "list", data := .seq vs.toArray }
    let u0 : HO := .frz o (.lst (ns.map V.int))
    have at_ : ∀ {b u}, (if b = a then some u0 else none) = some u → b = a ∧ u = u0 := fun {b u} z => by
      by_cases c : b = a
      · rw [if_pos c] at z; exact ⟨c, (Option.some.inj z).symm⟩
      · rw [if_neg c] at z; cases z
    refine ⟨fun b => if b = a then some u0 else none, fun b => ?_, .inl (.inr ⟨o, if_pos rfl⟩), fun b u z => ?_, fun b u z => ⟨(at_ z).1, rfl⟩⟩
    · by_cases c : b = a
      · exact .inr ⟨o, _, if_pos c⟩
      · exact .inl (if_neg c)
    · obtain ⟨rfl, rfl⟩ := at_ z
      exact ⟨ha, by rw [List.length_map]; exact hl, vs, _, rv, ha⟩
theorem law_runG {P : Program} {w : World} {K : PySem.W.Frag} {mg mb : Str → Option Value} {k : Nat} {fa a : Addr} {fd : FuncData} {x : Str} {sp : Sp} {s₁ : Shared} {vs : List Value} {ns : List Int} (KX : K.In s₁.heap) (hns : s₁.heap.Ns mainGlobals mg) (hb : s₁.heap.Ns builtinsNs mb) (hbb : ∀ x : Str, x ≠ "__name__" → mb x = bootBuiltins x) (hlim : s₁.heap.NoLimit) (hg : s₁.gens = #[])
    (ha : s₁.heap.get? a = some { cls := .type "list", data := .seq vs.toArray }) (hi : IntsAre vs ns) (hl : ns.length ≤ sizeLine) (hr : Room k callerA) (F : ∀ base : Heap, K.In base → base.Ns mainGlobals mg → FnG P w K mg base CX0 k fa fd [x] sp) (bnd : ∀ (s : Shared) (u : Value), BindsTo s fd ⟨[u], []⟩ [(x, u)])
    (wish : ∀ H : Hp, Only H → SqL K H a (ns.map V.int) → sp [.ref a] H (fun v _ => v = .bl true) fun _ _ _ => False) :
    codeAny (model P w) callerA (.call (.ref fa) ⟨[.ref a], []⟩) (fun r s' => r = .ok (.ret (.bool true)) ∧ OldK s₁.heap s'.heap ∧ s'.os = s₁.os ∧ AllBare s'.gens) s₁ := by
  obtain ⟨H, only, hS, hok, hA⟩ := first_heap (P := P) (w := w) KX ha hi hl
  have off : ∀ {b o}, s₁.heap.get? b = some o → (∀ vs n, o.data ≠ .seq vs n) → (hidT s₁.heap H).get? b = some o := fun {b o} e d => hidT_get e (by
    cases q : H b with
    | none => rfl
    | some u =>
      rw [(hA b u q).1, ha] at e
      cases e
      exact absurd rfl (d _ _))
  have nsB : ∀ {b m}, s₁.heap.Ns b m → (hidT s₁.heap H).Ns b m := fun {b m} ⟨o, es, ep, e, d, r⟩ => ⟨o, es, ep, off e (fun _ _ z => by rw [d] at z; cases z), d, r⟩
  have inB : K.In (hidT s₁.heap H) := fun b o e => hidT_get (KX b o e) (by
    cases q : H b with
    | none => rfl
    | some u =>
      obtain ⟨z, n⟩ := hA b u q
      rw [z, n] at e
      cases e)
  have md : Mod K mg (hidT s₁.heap H) := ⟨inB, nsB hns, ⟨mb, nsB hb, hbb⟩, hlim.elim fun mc h => ⟨mc, nsB h.1, h.2⟩⟩
  have e0 : Env0 P w K mg (hidT s₁.heap H) callerA [] s₁ H := ⟨rfl, md, fun b o e => of_hidT e, Nat.le_of_eq (hidT_size _ _), trivial, fun b hb => (nomatch (show b ∈ ([] : List Addr) from hb)), hok, .of_eq hg⟩
  refine codeAny_mono ((F _ inB (nsB hns)).run callerA [] s₁ H ⟨[.ref a], []⟩ [.ref a] [.ref a] _ _ rfl hr e0 (bnd s₁ (.ref a)) (.cons rfl .nil) (wish H only hS)) fun r s' h => ?_
  cases r with
  | error e => exact False.elim h
  | ok fl =>
    cases fl with
    | next => exact False.elim h
    | brk => exact False.elim h
    | cont => exact False.elim h
    | ret u =>
      obtain ⟨v, G, os, bare, un, okG, rel, rfl⟩ := h
      obtain rfl : u = Value.bool true := rel
      refine ⟨rfl, OldK.of_keep fun b o e => ?_, os, bare⟩
      cases q : H b with
      | none => exact un.keep b o e q (fun z => (nomatch (show b ∈ ([] : List Addr) from z))) (fun z => nomatch z)
      | some u =>
        rcases only b with z | ⟨ob, xs, z⟩
        · rw [q] at z
          cases z
        · have e2 := (okG b _ (un.frzs b ob _ z)).1
          have e1 := (hok b _ z).1
          rw [e] at e1
          cases e1
          exact e2
theorem walkG {l : PySem.W.OpenLaw} {n k : Nat} {q : Program} {loose : List Str} {XP : (Str → Option Value) → Heap → Prop} {YP : World → Heap → Prop} {d : DefRec} {K : Params → PySem.W.Frag} {sp : World → Sp} {x : Str} (hn : l.most = some n) (hn2 : n ≤ sizeLine) (hdf : d.params.defaults = []) (hr : Room k callerA) (hY : ∀ (w : World) (h : Heap), YP w h → (K w.params).In h)
    (F : ∀ (w : World) (mg : Str → Option Value) (fa : Addr) (h : Heap), (K w.params).In h → h.Ns mainGlobals mg → mg d.name = some (.ref fa) → ∃ fd : FuncData, (∀ (s : Shared) (u : Value), BindsTo s fd ⟨[u], []⟩ [(x, u)]) ∧ ∀ base : Heap, (K w.params).In base → base.Ns mainGlobals mg → FnG l.prog w (K w.params) mg base CX0 k fa fd [x] (sp w))
    (wish : ∀ (w : World) (H : Hp) (a : Addr) (ns : List Int), ns.length ≤ n → (∀ z ∈ ns, Builtin.Int.intBits z ≤ 1048576) → Only H → SqL (K w.params) H a (ns.map V.int) → sp w [.ref a] H (fun v _ => v = .bl true) fun _ _ _ => False) : PySem.W.WalkO q loose XP YP l.row.toRowW d [] (fun f vs => PySem.call f vs) := by
  refine Att.attach_callB hn hdf fun w s₀ s₁ mg mb fa o pm cd doc a vs ns G Y ho hd hcd hmg hobj hints hlen hbits hg => ?_
  have KX := hY w _ Y
  obtain ⟨fd, bnd, f⟩ := F w mg fa _ KX G.T.g hmg
  exact law_runG KX G.T.g G.T.b G.T.builtins G.T.nolimit hg hobj hints (Nat.le_trans hlen hn2) hr f bnd fun H hO hS => wish w H a ns hlen hbits hO hS
end S1

/-! repr of data: lists, tuples, dicts at any depth. -/
namespace S1
open PySem PySem.Spec PyProof.Rows L2 StX
def dK0 : Key → PyData
  | .inl i => .int i
  | .inr x => .str x
mutual
/-- the data that stand at a value -/
inductive Dq (K : PySem.W.Frag) (H : Hp) : V → PyData → Prop
  | non : Dq K H .non .none
  | bl (b : Bool) : Dq K H (.bl b) (.bool b)
  | int (i : Int) : Dq K H (.int i) (.int i)
  | str (x : Str) : Dq K H (.str x) (.str x)
  | lst {a : Addr} {xs : List V} {ds : List PyData} : H a = some (.lst xs) → DqA K H xs ds → Dq K H (.ref a) (.list ds)
  | tup {a : Addr} {xs : List V} {ds : List PyData} : H a = some (.tup xs) → DqA K H xs ds → Dq K H (.ref a) (.tuple ds)
  | dct {a : Addr} {kvs : List (Key × V)} {es : List (PyData × PyData)} : H a = some (.dK kvs) → es.map (·.1) = kvs.map (fun q => dK0 q.1) → DqA K H (kvs.map (·.2)) (es.map (·.2)) → Dq K H (.ref a) (.dict es)
inductive DqA (K : PySem.W.Frag) (H : Hp) : List V → List PyData → Prop
  | nil : DqA K H [] []
  | cons {v : V} {vs : List V} {d : PyData} {ds : List PyData} : Dq K H v d → DqA K H vs ds → DqA K H (v :: vs) (d :: ds)
end
mutual
theorem Dq.same {K : PySem.W.Frag} {H H' : Hp} (s : Same H H') : ∀ {v : V} {d : PyData}, Dq K H v d → Dq K H' v d
  | _, _, .non => .non
  | _, _, .bl b => .bl b
  | _, _, .int i => .int i
  | _, _, .str x => .str x
  | _, _, .lst h a => .lst (s _ _ h) (DqA.same s a)
  | _, _, .tup h a => .tup (s _ _ h) (DqA.same s a)
  | _, _, .dct h k a => .dct (s _ _ h) k (DqA.same s a)
theorem DqA.same {K : PySem.W.Frag} {H H' : Hp} (s : Same H H') : ∀ {v : List V} {d : List PyData}, DqA K H v d → DqA K H' v d
  | _, _, .nil => .nil
  | _, _, .cons h a => .cons (Dq.same s h) (DqA.same s a)
end
theorem DqA.get {K : PySem.W.Frag} {H : Hp} : ∀ {xs : List V} {ds : List PyData} {i : Nat} {x : V}, DqA K H xs ds → xs[i]? = some x → ∃ d, ds[i]? = some d ∧ Dq K H x d
  | _, _, _, _, .nil, e => by simp at e
  | _, _, 0, _, .cons h _, e => by
    simp at e
    subst e
    exact ⟨_, rfl, h⟩
  | _, _, i + 1, x, .cons _ t, e => by
    obtain ⟨u, h1, h2⟩ := DqA.get (i := i) (x := x) t (by simpa using e)
    exact ⟨u, by simpa using h1, h2⟩
theorem DqA.len {K : PySem.W.Frag} {H : Hp} : ∀ {xs : List V} {ds : List PyData}, DqA K H xs ds → xs.length = ds.length
  | _, _, .nil => rfl
  | _, _, .cons _ t => by rw [List.length_cons, List.length_cons, DqA.len t]
theorem DqA.mem {K : PySem.W.Frag} {H : Hp} : ∀ {xs : List V} {ds : List PyData}, DqA K H xs ds → ∀ x ∈ xs, ∃ d ∈ ds, Dq K H x d
  | _, _, .nil, x, h => nomatch h
  | _, _, .cons h t, x, m => by
    rcases List.mem_cons.mp m with e | m
    · rw [e]
      exact ⟨_, List.mem_cons_self, h⟩
    · obtain ⟨d, md, q⟩ := DqA.mem t x m
      exact ⟨d, List.mem_cons_of_mem _ md, q⟩
theorem DqA.app {K : PySem.W.Frag} {H : Hp} : ∀ {xs ys : List V} {ds es : List PyData}, DqA K H xs ds → DqA K H ys es → DqA K H (xs ++ ys) (ds ++ es)
  | _, _, _, _, .nil, s => s
  | _, _, _, _, .cons h t, s => .cons h (DqA.app t s)
def Rep (P : Program) (w : World) (h : Heap) (u : Value) (d : PyData) : Prop := ∃ as bs, Reads h u d as ∧ ReadAtMost h d.depth bs ∧ ReprK P w bs h d.depth u d.shown
def RepA (P : Program) (w : World) (h : Heap) (us : List Value) (ds : List PyData) : Prop := ∃ as bs, ReadsAll h us ds as ∧ ReadAtMost h (PyData.depthAll ds) bs ∧ ReprAllK P w bs h (PyData.depthAll ds) us (PyData.shownAll ds)
theorem rep_key {P : Program} {w : World} {h : Heap} {k : Key} {v : Value} (e : keyIs k v = true) (s : (dK0 k).showable = true) (z : (dK0 k).shown.length ≤ sizeLine) : Rep P w h v (dK0 k) := by
  rcases keyIs_shape e with ⟨i, t, rfl, rfl⟩ | ⟨x, t, rfl, rfl⟩
  · exact ⟨_, [], .int i t, (fun _ m => nomatch m), by simp only [dK0, PyData.shown]; exact .of_is (ReprIs.int t (by simpa [dK0, PyData.showable] using s)) _ _ _⟩
  · exact ⟨_, [], .str x t, (fun _ m => nomatch m), by simp only [dK0, PyData.shown]; exact .of_is (ReprIs.str x t (by simpa only [dK0, PyData.shown] using z)) _ _ _⟩
theorem repA_cons {P : Program} {w : World} {h : Heap} {u : Value} {us : List Value} {d : PyData} {ds : List PyData} (a : Rep P w h u d) (b : RepA P w h us ds) : RepA P w h (u :: us) (d :: ds) := by
  obtain ⟨a1, b1, r1, m1, k1⟩ := a
  obtain ⟨a2, b2, r2, m2, k2⟩ := b
  have e : PyData.depthAll (d :: ds) = max d.depth (PyData.depthAll ds) := by simp only [PyData.depthAll]
  refine ⟨_, b1 ++ b2, .cons r1 r2, ?_, ?_⟩
  · rw [e]
    exact (m1.mono (Nat.le_max_left _ _)).append (m2.mono (Nat.le_max_right _ _))
  · rw [e]
    simp only [PyData.shownAll]
    exact .cons ((k1.more fun _ => List.mem_append_left _).level_le (Nat.le_max_left _ _)) (k2.more_le (fun _ => List.mem_append_right _) (Nat.le_max_right _ _))
theorem rep_keys {P : Program} {w : World} {h : Heap} : ∀ {es : List DictEntry} {vs : List (Key × Value)}, Pairs (mixKind P w) es vs → PyData.showableAll (vs.map fun q => dK0 q.1) = true → (∀ t ∈ PyData.shownAll (vs.map fun q => dK0 q.1), t.length ≤ sizeLine) → RepA P w h (es.map (·.key)) (vs.map fun q => dK0 q.1)
  | _, _, .nil, _, _ => ⟨_, [], .nil, (fun _ m => nomatch m), by simp only [List.map_nil, PyData.shownAll]; exact .nil⟩
  | _, _, .cons (e := e) (kv := kv) (kvs := kvs) hk _ t, s, z => by
    have s' : (dK0 kv.1).showable = true ∧ PyData.showableAll (kvs.map fun q => dK0 q.1) = true := by simpa [PyData.showableAll] using s
    refine repA_cons (rep_key hk s'.1 (z _ (by simp only [List.map_cons, PyData.shownAll]; exact List.mem_cons_self))) (rep_keys t s'.2 fun t m => z t (by simp only [List.map_cons, PyData.shownAll]; exact List.mem_cons_of_mem _ m))
theorem pairs_vals {P : Program} {w : World} : ∀ {es : List DictEntry} {vs : List (Key × Value)}, Pairs (mixKind P w) es vs → es.map (·.val) = vs.map (·.2)
  | _, _, .nil => rfl
  | _, _, .cons _ e t => by rw [List.map_cons, List.map_cons, e, pairs_vals t]
theorem kv_keys : ∀ {kvs : List (Key × V)} {vs : List (Key × Value)}, KV kvs vs → vs.map (fun q => dK0 q.1) = kvs.map fun q => dK0 q.1
  | [], _, r => by
    unfold KV at r
    cases r
    rfl
  | p :: l, _, r => by
    unfold KV at r
    cases r with
    | cons h t => rw [List.map_cons, List.map_cons, h.1, kv_keys (kvs := l) t]
theorem kv_vals : ∀ {kvs : List (Key × V)} {vs : List (Key × Value)}, KV kvs vs → Vals (kvs.map (·.2)) (vs.map (·.2))
  | [], _, r => by
    unfold KV at r
    cases r
    exact .nil
  | p :: l, _, r => by
    unfold KV at r
    cases r with
    | cons h t => exact .cons h.2 (kv_vals (kvs := l) t)
section
variable {X : Cx} {pins : List (Addr × Obj)} {σ : L2.St} {H : Hp} {s : Shared}
mutual
theorem dq_rep (I : Inv X pins σ H s) : ∀ {v : V} {d : PyData}, Dq X.K H v d → ∀ {u : Value}, RelV v u → d.showable = true → d.shown.length ≤ sizeLine → Rep X.prog X.w s.heap u d
  | _, _, .non, _, r, _, _ => by
    cases r
    exact ⟨_, [], .none, (fun _ m => nomatch m), by simp only [PyData.shown]; exact .of_is ReprIs.none _ _ _⟩
  | _, _, .bl b, _, r, _, _ => by
    cases r
    exact ⟨_, [], .bool b, (fun _ m => nomatch m), by simp only [PyData.shown]; exact .of_is (ReprIs.bool b) _ _ _⟩
  | _, _, .int i, _, r, q, _ => by
    obtain ⟨t, rfl⟩ := r
    exact ⟨_, [], .int i t, (fun _ m => nomatch m), by simp only [PyData.shown]; exact .of_is (ReprIs.int t (by simpa [PyData.showable] using q)) _ _ _⟩
  | _, _, .str x, _, r, _, z => by
    obtain ⟨t, rfl⟩ := r
    exact ⟨_, [], .str x t, (fun _ m => nomatch m), by simp only [PyData.shown]; exact .of_is (ReprIs.str x t (by simpa only [PyData.shown] using z)) _ _ _⟩
  | _, _, .lst (a := a) (ds := ds) hs ha, _, r, q, z => by
    cases r
    obtain ⟨its, rv, ⟨o, n, ho, hc, _, hd⟩, _⟩ := I.list (SqL.of hs)
    have z' : (listText (PyData.shownAll ds)).length ≤ sizeLine := by simpa only [PyData.shown] using z
    obtain ⟨as, bs, ra, mb, kb⟩ := dqA_rep I ha rv (by simpa [PyData.showable] using q) fun t m => Nat.le_trans (listText_mem_le m) z'
    have rd : Reads s.heap (.ref a) (.list ds) _ := .list ho hc hd ra
    have off : a ∉ bs := not_mem_of_deeper rd (by simp only [PyData.depth]; omega) mb
    refine ⟨_, a :: bs, rd, ReadAtMost.cons rd (by simp only [PyData.depth]; omega) mb, ?_⟩
    simp only [PyData.depth, PyData.shown]
    cases its with
    | nil =>
      cases ra
      simp only [PyData.shownAll, listText_nil]
      exact ReprK.listEmpty ho hc hd
    | cons x l => exact ReprK.list ho hc hd off (by simpa using kb.length_eq) fun i y e => kb.item i y (by simpa using e)
  | _, _, .tup (a := a) (ds := ds) hs ha, _, r, q, z => by
    cases r
    obtain ⟨its, rv, ⟨o, ho, hc, n, hd⟩, _⟩ := I.tuple (SqT.of hs)
    have z' : (tupleText (PyData.shownAll ds)).length ≤ sizeLine := by simpa only [PyData.shown] using z
    obtain ⟨as, bs, ra, mb, kb⟩ := dqA_rep I ha rv (by simpa [PyData.showable] using q) fun t m => Nat.le_trans (tupleText_mem_le m) z'
    have rd : Reads s.heap (.ref a) (.tuple ds) _ := .tuple ho hc hd ra
    refine ⟨_, a :: bs, rd, ReadAtMost.cons rd (by simp only [PyData.depth]; omega) mb, ?_⟩
    simp only [PyData.depth, PyData.shown]
    exact ReprK.tuple ho hc hd (not_mem_of_deeper rd (by simp only [PyData.depth]; omega) mb) kb
  | _, _, .dct (a := a) (kvs := kvs) (es := es) hd hk hv, _, r, q, z => by
    cases r
    obtain ⟨_, notm, vs, kv, o, ents, ep, ho, ex, dd, _, prs, _⟩ := (show ObjOk X.prog X.w H s.heap a (.dK kvs) from I.hok a _ hd)
    have z' : (dictText (PyData.shownKv es)).length ≤ sizeLine := by simpa only [PyData.shown] using z
    obtain ⟨q1, q2⟩ := PyData.showableKv_split es (by simpa [PyData.showable] using q)
    have ek : vs.map (fun q => dK0 q.1) = es.map (·.1) := by rw [kv_keys kv, hk]
    have R1 : RepA X.prog X.w s.heap (ents.toList.map (·.key)) (es.map (·.1)) := by
      rw [← ek]
      exact rep_keys prs (by rw [ek]; exact q1) fun t m => by
        rw [ek] at m
        obtain ⟨p, mp, lp⟩ := PyData.shownKv_key_le es t m
        exact Nat.le_trans lp (Nat.le_trans (dictText_mem_le mp) z')
    have R2 : RepA X.prog X.w s.heap (ents.toList.map (·.val)) (es.map (·.2)) := by
      rw [pairs_vals prs]
      exact dqA_rep I hv (kv_vals kv) q2 fun t m => by
        obtain ⟨p, mp, lp⟩ := PyData.shownKv_val_le es t m
        exact Nat.le_trans lp (Nat.le_trans (dictText_mem_le mp) z')
    obtain ⟨a1, b1, r1, m1, k1⟩ := R1
    obtain ⟨a2, b2, r2, m2, k2⟩ := R2
    have rd : Reads s.heap (.ref a) (.dict es) _ := .dict ho ex.1 dd r1 r2
    have mb : ReadAtMost s.heap (PyData.depthKv es) (b1 ++ b2) := (m1.mono (PyData.depthAll_keys_le es)).append (m2.mono (PyData.depthAll_vals_le es))
    refine ⟨_, a :: (b1 ++ b2), rd, ReadAtMost.cons rd (by simp only [PyData.depth]; omega) mb, ?_⟩
    simp only [PyData.depth, PyData.shown, PyData.shownKv_eq]
    exact ReprK.dict ho ex.1 dd notm (not_mem_of_deeper rd (by simp only [PyData.depth]; omega) mb) (ReprEntriesK.of_two ents.toList _ _ (k1.more_le (fun _ => List.mem_append_left _) (PyData.depthAll_keys_le es)) (k2.more_le (fun _ => List.mem_append_right _) (PyData.depthAll_vals_le es)))
theorem dqA_rep (I : Inv X pins σ H s) : ∀ {vs : List V} {ds : List PyData}, DqA X.K H vs ds → ∀ {us : List Value}, Vals vs us → PyData.showableAll ds = true → (∀ t ∈ PyData.shownAll ds, t.length ≤ sizeLine) → RepA X.prog X.w s.heap us ds
  | _, _, .nil, _, r, _, _ => by
    cases r
    exact ⟨_, [], .nil, (fun _ m => nomatch m), by simp only [PyData.shownAll]; exact .nil⟩
  | _, _, .cons (d := d) (ds := ds) h1 h2, _, r, q, z => by
    cases r with
    | cons r1 r2 =>
      have q' : d.showable = true ∧ PyData.showableAll ds = true := by simpa [PyData.showableAll] using q
      exact repA_cons (dq_rep I h1 r1 q'.1 (z _ (by simp only [PyData.shownAll]; exact List.mem_cons_self))) (dqA_rep I h2 r2 q'.2 fun t m => z t (by simp only [PyData.shownAll]; exact List.mem_cons_of_mem _ m))
end
/-- repr(x), x a list or a tuple of such data -/
def rReprQ (K : PySem.W.Frag) : List V → Hp → VK → Prop := fun vs H Q => ∃ (a : Addr) (xs : List V) (ds : List PyData) (d : PyData), vs = [.ref a] ∧ DqA K H xs ds ∧ ((H a = some (.lst xs) ∧ d = .list ds) ∨ (H a = some (.tup xs) ∧ d = .tuple ds)) ∧ d.showable = true ∧ d.depth ≤ 60 ∧ d.shown.length ≤ sizeLine ∧ Q (.str d.shown) H
theorem call_reprQ (gd : X.A.guards = some []) (un : X.A.units + 64 < cLine) : CallR X (.builtin "repr") (rReprQ X.K) := by
  intro pins s σ H vs us Q I r h
  obtain ⟨a, xs, ds, d, rfl, ha, hd, sh, dp, z, q⟩ := h
  obtain ⟨u1, rfl, r1⟩ := vals1 r
  obtain rfl : u1 = Value.ref a := r1
  have done : ∀ h' u tk, (∀ b o, s.heap.get? b = some o → h'.get? b = some o) → EP X pins σ Q (.str d.shown u) { s with heap := h', toks := tk } := fun h' u tk k => ⟨.str d.shown, H, I.kept (t' := tk) k, ⟨u, rfl⟩, q⟩
  rcases hd with ⟨hs, rfl⟩ | ⟨hs, rfl⟩
  · skip
    obtain ⟨its, rv, ⟨o, n, ho, hc, _, hdt⟩, _⟩ := I.list (SqL.of hs)
    have z' : (listText (PyData.shownAll ds)).length ≤ sizeLine := by simpa only [PyData.shown] using z
    obtain ⟨as, bs, ra, mb, kb⟩ := dqA_rep I ha rv (by simpa [PyData.showable] using sh) fun t m => Nat.le_trans (listText_mem_le m) z'
    have rd : Reads s.heap (.ref a) (.list ds) _ := .list ho hc hdt ra
    have off : a ∉ bs := not_mem_of_deeper rd (by simp only [PyData.depth]; omega) mb
    simp only [PyData.depth] at dp
    simp only [PyData.shown] at done
    refine call_repr_slot (by omega) ⟨o, ho, hc⟩ F.slot_list_repr.toG ?_
    cases its with
    | nil =>
      cases ra
      simp only [PyData.shownAll, listText_nil] at done
      exact call_list_repr_empty ⟨o, ho, hc⟩ ho hdt ⟨_, _, rfl, done s.heap _ _ fun _ _ e => e⟩
    | cons x l => exact call_list_reprK ho hc hdt off (by simpa using kb.length_eq) (fun i y e => kb.item i y (by simpa using e)) gd (fun b _ => Clear.nil b) (by show X.A.units + 1 + _ < cLine; omega) (fun _ _ e => e) (fun h' u tk k => ⟨_, _, rfl, done h' u tk k⟩) z'
  · skip
    obtain ⟨its, rv, ⟨o, ho, hc, n, hdt⟩, _⟩ := I.tuple (SqT.of hs)
    have z' : (tupleText (PyData.shownAll ds)).length ≤ sizeLine := by simpa only [PyData.shown] using z
    obtain ⟨as, bs, ra, mb, kb⟩ := dqA_rep I ha rv (by simpa [PyData.showable] using sh) fun t m => Nat.le_trans (tupleText_mem_le m) z'
    have rd : Reads s.heap (.ref a) (.tuple ds) _ := .tuple ho hc hdt ra
    simp only [PyData.depth] at dp
    simp only [PyData.shown] at done
    refine call_repr_slot (by omega) ⟨o, ho, hc⟩ F.slot_tuple_repr ?_
    exact call_tuple_reprK ho hc hdt (not_mem_of_deeper rd (by simp only [PyData.depth]; omega) mb) kb gd (fun b _ => Clear.nil b) (by show X.A.units + 1 + _ < cLine; omega) (fun _ _ e => e) (fun h' u tk k => ⟨_, _, rfl, done h' u tk k⟩) z'
end
end S1

/-! An own error over ValueError whose __init__ says super().__init__(value); self.value = value. -/
namespace S1
open PySem PySem.W PySem.Calls PyProof.Rows PySem.HandSPX
section
variable {prog : Program} {w : World} {A : Around} {E : Value → Shared → Prop} {h : Heap} {g : Array GenState} {d : Drawn} {t : Nat} {os : OsState}
variable {nm q : Str} {C N : Addr} {bs bm : List Value} {hdct : Bool} {sn : List Str} {sub : List Value} {ab : Bool} {col : Option Bool} {dd : Option Addr} {k0 k1 k2 k3 k5 : Option Value}
/-- ValueError.__init__ bound to the exception at e, called -/
theorem call_veb {u e t0 : Addr} {rest : List Value} {Q : Value → Shared → Prop} (cls : h.get? C = some (excClassObj nm q C N bs bm hdct sn sub ab col dd k0 k1 k2 k3 k5 "ValueError.__new__")) (at_ : h.get? e = some (HandSPX.excO C t0)) (mw : h.get? u = some (kxs_mw "ValueError.__init__" e)) (few : rest.length ≤ sizeLine)
    (fin : ∀ h' t1, (∀ b o, b ≠ e → h.get? b = some o → h'.get? b = some o) → h'.get? e = some (HandSPX.excO C t1) → Q .none ⟨h', g, d, t, os⟩) : wpAny (model prog w) A (call (.ref u) rest) Q E ⟨h, g, d, t, os⟩ := by
  refine wpAny_call (codeAny_of_tree ?_)
  show wpAny _ A.in1 (callAny (.ref u) ⟨rest, []⟩) _ _ _
  simp only [callAny]
  refine wpAny_bind (wpAny_load mw ?_)
  simp only [kxs_mw, show (Value.type "method-wrapper" == Value.type "method" || Value.type "method-wrapper" == Value.type "builtin_function_or_method" || Value.type "method-wrapper" == Value.type "method-wrapper") = true by decide, if_true]
  refine W.KFB.if_so (by decide) ?_
  refine wpAny_bind (check_bound_init F.excBase_ValueError.toExcCallFacts cls at_ rfl ?_)
  refine wpAny_bind (wpAny_pure (wpAny_pure ?_))
  refine ⟨Code.quiet_builtin _ (by decide +kernel), codeAny_builtin F.excBase_ValueError.initEntry ?_⟩
  rw [Around.under_plainId F.excBase_ValueError.init.plain _]
  wp_walk
  refine fin _ h.objs.size (fun b o nb ho => ?_) ?_
  · rw [Heap.get?_update_other _ _ (Ne.symm nb)]; exact Heap.get?_push_of_some _ ho
  · rw [Heap.get?_update_self _ (Heap.get?_push_of_some _ at_) rfl]; rfl
end
/-! ### the text of such an __init__ -/
def sA (p1 p2 : Pos) : Arguments := { posonlyargs := [], args := [{ arg := "self", annotation := none, pos := p1 }, { arg := "value", annotation := none, pos := p2 }], vararg := none, kwonlyargs := [], kw_defaults := [], kwarg := none, defaults := [] }
def sB (q0 q1 q2 q3 q4 q5 q6 q7 q8 q9 : Pos) : List Stmt := [.Expr (.Call (.Attribute (.Call (.Name "super" q0) [] [] q1) "__init__" q2) [.Name "value" q3] [] q4) q5, .Assign [.Attribute (.Name "self" q6) "value" q7] (.Name "value" q8) q9]
def sS : Scope := { kind := .function, names := [(PySem.Str.ofString "self", .local), (PySem.Str.ofString "value", .local), (PySem.Str.ofString "__class__", .free), (PySem.Str.ofString "super", .globalImplicit)], isGenerator := false, isCoroutine := false, more := [] }
/-- super().__init__(value) stands on one row -/
def SupCall (q0 q1 q2 q3 q4 : Pos) : Prop := ∀ env, eval (.Call (.Attribute (.Call (.Name "super" q0) [] [] q1) "__init__" q2) [.Name "value" q3] [] q4) env = (do
  let ov ← attributeBase (.Call (.Name "super" q0) [] [] q1) "__init__" env (eval (.Call (.Name "super" q0) [] [] q1) env)
  standAt q2.atName
  let (f, first) ← holding [ov] (getMethod ov "__init__" (do return (← importBound (.Call (.Name "super" q0) [] [] q1) env).getD true))
  callWith q4 f first (backTo q4 (starEach [.Name "value" q3] env)) [])
example : SupCall ⟨7, 8, 7, 13⟩ ⟨7, 8, 7, 15⟩ ⟨7, 8, 7, 24⟩ ⟨7, 25, 7, 30⟩ ⟨7, 8, 7, 31⟩ := fun env => by rfl
/-- what the written part says of such a class, at C, and of its __init__, at fI -/
structure SupTxt (P : Program) (K : Frag) (C fI : Addr) (qual : Str) : Prop where
  cls : ∃ nm q N bs bm sn sub ab col dd k0 k1 k2 k3 k5, K.lookup C = some (excClassObj nm q C N bs bm true sn sub ab col dd k0 k1 k2 k3 k5 "ValueError.__new__") ∧ refsVE bm = true
  sa : findIn K (.ref C) "__setattr__" = some (some (.builtin "object.__setattr__"))
  ga : findIn K (.ref C) "__getattribute__" = some (some (.builtin "BaseException.__getattribute__"))
  gg : findIn K (.ref C) "__getattr__" = some none
  noV : findIn K (.ref C) "value" = some none
  iC : findIn K (.ref C) "__init__" = some (some (.ref fI))
  tC : typeIn K (.ref fI) = some (.type "function")
  kC : keepIn K (.ref C) = true
  exC : subIn K (.ref C) (.type "BaseException") = some true
  tyC : typeIn K (.ref C) = some (.type "type")
  hdC : hasDictIn K C = true
  su : ks_superIn K C C "__init__" = some (some (.builtin "ValueError.__init__"))
  vE : subIn K (.ref C) (.type "ValueError") = some true
  sf : mroIn K C (.ref C) = some true
  op : nsIn K cStatics "thirdparty.any" = some none
  nS : nsIn K mainGlobals "super" = some none
  top : (P.main.scope.names.lookup ("super" : Str)).isSome = false
  fn : ∃ (oc : Value) (od : Option Addr) (doc pm : Value) (an : Option Addr) (cda cc : Addr) (ct : Value) (osl : Array (Option Value)) (p1 p2 q0 q1 q2 q3 q4 q5 q6 q7 q8 q9 : Pos),
    K.lookup fI = some ⟨oc, od, .func (ksFn "__init__" qual (sA p1 p2) (sB q0 q1 q2 q3 q4 q5 q6 q7 q8 q9) sS .none .none doc pm an (.ref cda) ct cc), osl⟩ ∧ SupCall q0 q1 q2 q3 q4 ∧ codeIn K (.ref cda) qual = true ∧
    (∃ (ccl : Value) (cdd : Option Addr) (vs : Array Value) (ccs : Array (Option Value)) (file : Str) (tf : Tok), K.lookup cda = some ⟨ccl, cdd, .fields vs, ccs⟩ ∧ vs[2]? = some (.str file tf) ∧ ((P.main.file : Str) == file) = true) ∧
    ∃ (cl : Value) (cld : Option Addr) (csl : Array (Option Value)), K.lookup cc = some ⟨cl, cld, .cell (some (.ref C)), csl⟩
abbrev supBinds (x : Addr) (v : Value) : List (Str × Value) := [("self", .ref x), ("value", v)]
/-- what __init__ leaves of a fresh exception at x -/
structure SupEnd (h h' : Heap) (x C dx t1 : Addr) (v : Value) : Prop where
  keep : ∀ b o, b ≠ x → h.get? b = some o → h'.get? b = some o
  obj : h'.get? x = some { cls := .ref C, dict := some dx, data := .fields #[.ref t1, .none, .none, .none, .bool false, .none] }
  dbig : h.objs.size ≤ dx
  dne : dx ≠ x
  ns : h'.Ns1 dx (fun y => if y = "value" then some v else none)
theorem sup_clsIn {K : Frag} {C : Addr} {nm q : Str} {N : Addr} {bs bm : List Value} {sn : List Str} {sub : List Value} {ab : Bool} {col : Option Bool} {dd : Option Addr} {k0 k1 k2 k3 k5 : Option Value} {nid : String} (e : K.lookup C = some (excClassObj nm q C N bs bm true sn sub ab col dd k0 k1 k2 k3 k5 nid)) :
    clsIn K C = some { name := nm, bases := bs, mro := .ref C :: bm, ns := N, qualname := q, hasDict := true, slotNames := sn, subclasses := sub, abstract := ab, collection := col, hasDel := false } := by
  unfold clsIn; rw [e] <;> rfl
section
variable {prog : Program} {w : World} {A : Around} {E : Value → Shared → Prop} {R : Result → Shared → Prop} {s : Shared} {K : Frag} {mg mb : Str → Option Value} {C fI : Addr} {qual : Str}
theorem sup_init (T : SupTxt prog K C fI qual) {x t0 : Addr} {v : Value} (X : K.In s.heap) (hlim : s.heap.NoLimit) (hG : s.heap.Ns mainGlobals mg) (hB : s.heap.Ns builtinsNs mb) (bb : ∀ x : Str, x ≠ "__name__" → mb x = bootBuiltins x) (hx : s.heap.get? x = some (HandSPX.excO C t0)) (hnx : K.lookup x = none) (hroom : A.depth < recursionLimit)
    (hq : ∀ h' tk dx t1, SupEnd s.heap h' x C dx t1 v → R (.ok (.ret .none)) { s with heap := h', toks := tk }) :
    codeAny (model prog w) A (.call (.ref fI) ⟨[.ref x, v], []⟩) R s := by
  obtain ⟨oc, od, doc, pm, an, cda, cc, ct, osl, p1, p2, q0, q1, q2, q3, q4, q5, q6, q7, q8, q9, ho, row, hcd, ⟨ccl, cdd, vs, ccs, file, tf, hco, hvs, hfl⟩, cl, cld, csl, hcc⟩ := T.fn
  obtain ⟨nm, q, N, bs, bm, sn, sub, ab, col, dd, k0, k1, k2, k3, k5, hC, hbm⟩ := T.cls
  have hcl := sup_clsIn hC
  refine ks_codeAny_call_defAt (fd := ksFn "__init__" qual (sA p1 p2) (sB q0 q1 q2 q3 q4 q5 q6 q7 q8 q9) sS .none .none doc pm an (.ref cda) ct cc) (body := sB q0 q1 q2 q3 q4 q5 q6 q7 q8 q9) (binds := [("self", .ref x), ("value", v)]) hroom (X _ _ ho) rfl hlim (codeRec_of X hcd) rfl (BindsTo.of_eq (by first | rfl | with_unfolding_all rfl)) (show ∀ y ∈ sS.names, y.2 ≠ .cell by decide +kernel) (fun y hy => ?_) (fun h₁ hn k => ?_)
  · rcases List.mem_cons.mp hy with rfl | hy
    · rfl
    · rcases List.mem_cons.mp hy with rfl | hy
      · rfl
      · cases hy
  have X₁ : K.In h₁ := X.keeps k
  have hx₁ := k _ _ hx
  have keepNs : ∀ {a : Addr} {m : Str → Option Value}, s.heap.Ns a m → h₁.Ns a m := fun {a m} ⟨o, es, ep, e, r⟩ => ⟨o, es, ep, k _ _ e, r⟩
  show _root_.PySem.wpAt _ (A.deeper (ksEnv qual sS s.heap.objs.size fI (.ref cda) cc)) (.func (sB q0 q1 q2 q3 q4 q5 q6 q7 q8 q9) (ksEnv qual sS s.heap.objs.size fI (.ref cda) cc)) (execs (sB q0 q1 q2 q3 q4 q5 q6 q7 q8 q9) (ksEnv qual sS s.heap.objs.size fI (.ref cda) cc)) _ _ _
  refine ks_wpAt_execs_cons (ks_wpAt_Expr_any (ks_wpAt_MethodCall ?_ (row _)))
  refine ks_wpAt_super_base (f := fI) (cc := cda) (ar := { arg := "self", annotation := none, pos := p1 }) rfl rfl (by decide +kernel) rfl (X₁ _ _ ho) rfl rfl rfl (X₁ _ _ hco) rfl hvs hfl T.top ?_
  refine ks_loadName_global rfl rfl (loadGlobal_builtin (env := ksEnv qual sS s.heap.objs.size fI (.ref cda) cc) (keepNs hG) ?_ (keepNs hB) ((bb _ (by decide +kernel)).trans rfl) ⟨rfl, ?_⟩)
  · exact mg_none_of X₁ (keepNs hG) T.nS
  refine wpAny_loadName_free rfl rfl rfl ⟨_, X₁ _ _ hcc, rfl⟩ ?_
  refine wpAny_loadName_local rfl rfl hn (by first | rfl | with_unfolding_all rfl | kernel_rfl) ?_
  refine ks_wpAny_isType_cls (X₁ _ _ hC) rfl ⟨rfl, ?_⟩
  refine ks_wpAny_call_super (X₁ _ _ hC) rfl hx₁ rfl (fun c e => nomatch e) (looks_mroIn X₁ T.sf) (fun h₂ hso k₂ => ?_)
  have X₂ : K.In h₂ := X₁.keeps fun b o e => k₂ b o e
  have hx₂ := k₂ _ _ hx₁
  have I₂ : InstAt h₂ x (HandSPX.excO C t0) C none := ⟨hx₂, rfl, rfl, trivial⟩
  have su := T.su
  unfold ks_superIn at su
  rw [hcl] at su
  refine kxs_getMethod kxs_ValueError hso (looks_opaque X₂ T.op) (l₀ := .ref C :: bm) (fun A Q E s k q => wpAny_bind ((looks_clsIn X₂ hcl) A _ E s k (wpAny_pure q))) rfl X₂ su (I₂.type.andThen (looks_subIn X₂ T.vE)) (ks_ne X₂ I₂ hcl) (by decide +kernel) ?_
  have nL₂ : h₂.get? h₂.objs.size = none := by
    cases e : h₂.get? h₂.objs.size with
    | none => rfl
    | some o => exact absurd (Heap.lt_size e) (Nat.lt_irrefl _)
  have k₃ : ∀ b o, h₂.get? b = some o → (h₂.push (kxs_mw "ValueError.__init__" x)).get? b = some o := fun b o e => Heap.get?_push_of_some _ e
  have mw : (h₂.push (kxs_mw "ValueError.__init__" x)).get? h₂.objs.size = some (kxs_mw "ValueError.__init__" x) := Heap.get?_push_size _ rfl
  generalize h₂.push (kxs_mw "ValueError.__init__" x) = h₃ at k₃ mw
  have news : News h₂ (h₂.objs.size + 1) h₃ [(h₂.objs.size, kxs_mw "ValueError.__init__" x)] := fun p hp => by
    rcases List.mem_cons.mp hp with rfl | hp
    · exact ⟨mw, Nat.ne_of_lt (Nat.lt_succ_self _), nL₂⟩
    · cases hp
  have hn₃ : h₃.Ns s.heap.objs.size (fun y => (supBinds x v).reverse.lookup y) := by
    obtain ⟨o, es, ep, e, r⟩ := hn
    exact ⟨o, es, ep, k₃ _ _ (k₂ _ _ e), r⟩
  refine kxs_callWith1 (i := "ValueError.__init__") (x := x) news List.mem_cons_self ?_
  refine Calls.spliced_cons ?_
  refine wpAny_Name (wpAny_loadName_local rfl rfl hn₃ (by first | rfl | with_unfolding_all rfl | kernel_rfl) ?_) (by decide)
  refine Calls.spliced_nil ⟨mw, ?_⟩
  refine call_veb (k₃ _ _ (k₂ _ _ (X₁ _ _ hC))) (k₃ _ _ hx₂) mw (by rw [sizeLine_eq]; exact (by decide : 1 ≤ 16777216)) (fun h₄ t1 k₄ hx₄ => ?_)
  have X₄ : K.In h₄ := fun b o e => k₄ b o (fun z => by rw [z, hnx] at e; cases e) (k₃ _ _ (k₂ _ _ (X₁ _ _ e)))
  have xL : s.heap.objs.size ≠ x := Nat.ne_of_gt (Heap.lt_size hx)
  have hn₄ : h₄.Ns s.heap.objs.size (fun y => (supBinds x v).reverse.lookup y) := by
    obtain ⟨o, es, ep, e, r⟩ := hn₃
    exact ⟨o, es, ep, k₄ _ _ xL e, r⟩
  show _root_.PySem.wpAt _ _ _ (execs _ _) _ _ _
  refine ks_wpAt_execs_cons (ks_wpAt_Assign_Attr (wpAt_of_wpAny ?_))
  refine wpAny_Name (wpAny_loadName_local rfl rfl hn₄ (by first | rfl | with_unfolding_all rfl | kernel_rfl) ?_) (by decide)
  refine wpAny_Name (wpAny_loadName_local rfl rfl hn₄ (by first | rfl | with_unfolding_all rfl | kernel_rfl) ?_) (by decide)
  refine set_plain X₄ (ox := HandSPX.excO C t1) (od := none) ⟨hx₄, rfl, rfl, trivial⟩ T.sa ?_
  refine exc_osa X₄ hx₄ hcl (show refsVE (.ref C :: bm) = true from hbm) rfl T.noV (fun h₅ tk₅ dx k₅ dn dne hx₅ hn₅ => ?_)
  have z : s.heap.objs.size < h₄.objs.size := hn₄.lt
  refine wpAt_of_wpAny (wpAny_execs_nil (hq h₅ tk₅ dx t1 ⟨fun b o nb e => k₅ b o nb (k₄ b o nb (k₃ _ _ (k₂ _ _ (k _ _ e)))), hx₅, Nat.le_of_lt (Nat.lt_of_lt_of_le z dn), dne, hn₅⟩))
end
end S1

/-! C(value), C such an error: made, raised. -/
namespace S1
section
open PySem PySem.W PySem.Calls PyProof.Rows PySem.HandSPX
variable {prog : Program} {w : World} {A : Around} {E : Value → Shared → Prop} {R : Result → Shared → Prop} {s : Shared} {K : Frag} {mg mb : Str → Option Value} {C fI : Addr} {qual : Str}
structure SupMade (h h' : Heap) (e C d : Addr) (v : Value) : Prop where
  keep : ∀ b o, h.get? b = some o → h'.get? b = some o
  new : h.objs.size ≤ e
  obj : ∃ oe vs, h'.get? e = some oe ∧ oe.cls = .ref C ∧ oe.dict = some d ∧ oe.data = .fields vs ∧ vs[1]? = some .none
  dbig : h.objs.size ≤ d
  dne : d ≠ e
  ns : h'.Ns1 d (fun y => if y = "value" then some v else none)
theorem sup_made (T : SupTxt prog K C fI qual) {v : Value} (X : K.In s.heap) (hlim : s.heap.NoLimit) (hG : s.heap.Ns mainGlobals mg) (hB : s.heap.Ns builtinsNs mb) (bb : ∀ x : Str, x ≠ "__name__" → mb x = bootBuiltins x) (hroom : A.depth + 1 < recursionLimit)
    (hq : ∀ h' tk e d, SupMade s.heap h' e C d v → R (.ok (.ret (.ref e))) { s with heap := h', toks := tk }) : codeAny (model prog w) A (.call (.ref C) ⟨[v], []⟩) R s := by
  obtain ⟨nm, q, N, bs, bm, sn, sub, ab, col, dd, k0, k1, k2, k3, k5, hC, hbm⟩ := T.cls
  obtain ⟨hp, g, dr, tk, os⟩ := s
  have k : ∀ b o, hp.get? b = some o → ((hp.push (kdv_tup [v])).push (HandSPX.excO C hp.objs.size)).get? b = some o := fun b o e => Heap.get?_push_of_some _ (Heap.get?_push_of_some _ e)
  have at_ : ((hp.push (kdv_tup [v])).push (HandSPX.excO C hp.objs.size)).get? (hp.objs.size + 1) = some (HandSPX.excO C hp.objs.size) := by heap_get
  have up : ∀ {a : Addr} {m : Str → Option Value}, hp.Ns a m → ((hp.push (kdv_tup [v])).push (HandSPX.excO C hp.objs.size)).Ns a m := fun {a m} ⟨o, es, ep, e, r⟩ => ⟨o, es, ep, k _ _ e, r⟩
  have off : K.lookup (hp.objs.size + 1) = none := by
    cases e : K.lookup (hp.objs.size + 1) with
    | none => rfl
    | some o => exact absurd (Nat.lt_of_succ_lt (Heap.lt_size (X _ _ e : hp.get? (hp.objs.size + 1) = some o))) (Nat.lt_irrefl _)
  refine call_own F.excBase_ValueError (fun X => refsVE_contains X bm hbm) (X _ _ hC) (looks_findIn X T.iC) (fun self => bind_fn X self T.tC) (by rw [sizeLine_eq]; exact (by decide : 1 ≤ 16777216)) ?_
  refine sup_init (s := ⟨(hp.push (kdv_tup [v])).push (HandSPX.excO C hp.objs.size), g, dr, tk, os⟩) T (X.keeps k) (hlim.keeps k) (up hG) (up hB) bb at_ off ?_ fun h' tk' dx t1 ⟨k', hx, dn, dne, hns⟩ => ?_
  · show A.depth + 1 < recursionLimit
    exact hroom
  · have old : ∀ b o, hp.get? b = some o → h'.get? b = some o := fun b o e => k' b o (Nat.ne_of_lt (Nat.lt_succ_of_lt (Heap.lt_size e))) (k b o e)
    have z : hp.objs.size + 1 + 1 ≤ dx := by
      first
        | (simpa only [Heap.size_push] using dn)
        | exact dn
        | (have q := dn; rw [Heap.size_push, Heap.size_push] at q; exact q)
    exact ⟨rfl, hq h' tk' (hp.objs.size + 1) dx ⟨old, Nat.le_succ _, ⟨_, _, hx, rfl, rfl, rfl, rfl⟩, Nat.le_trans (Nat.le_trans (Nat.le_succ _) (Nat.le_succ _)) z, dne, hns⟩⟩
end
open PySem PySem.Spec PyProof.Rows L2 StX
theorem relO_val {v : V} {u : Value} (r : RelV v u) (f : Str) : RelO (List.lookup f [(("value" : Str), v)]) (if f = "value" then some u else none) := by
  by_cases e : f = "value"
  · subst e
    rw [if_pos rfl, show List.lookup ("value" : Str) [(("value" : Str), v)] = some v by simp [List.lookup]]
    exact r
  · have q : (f == ("value" : Str)) = false := by simpa using e
    rw [if_neg e, show List.lookup f [(("value" : Str), v)] = none by simp [List.lookup, q]]
    trivial
section
variable {X : Cx} {C fI : Addr} {qual x : Str}
/-- C(e) -/
def tMkSup (C : Addr) (ta : TA) : L2.St → Hp → XK → Prop := fun σ H Q => ta σ H fun vs H1 => ∃ v, vs = [v] ∧ ∀ d, H1 d = none → Q (.ref C) (some d) (upd H1 d (.xd [(("value" : Str), v)]))
theorem pmk_sup {a : Expr} {ta : TA} {p pos : Pos} {k : Nat} (T : SupTxt X.prog X.K C fI qual) (gC : X.mg x = some (.ref C)) (hr : Room k X.A) (ha : PA X [a] ta) (hg : Gl X x := by rfl) (hdb : (x == ("__debug__" : Str)) = false := by decide)
    (he : starEach (a :: []) X.env = (false, eval a X.env) :: starEach [] X.env := by rfl) (hpl : (backTo pos (starEach [] X.env)).any (·.1) = false := by rfl) : PMk X (.Call (.Name x p) [a] [] pos) (tMkSup C ta) := by
  intro pins s σ H Q I h
  refine wpAny_Call_Name_kw (ld_glob I hg gC ?_ hdb)
  refine PySem.W.callWith_K (h₀ := X.base) I.ok.mod.kin T.kC (thn (ha.run pos pins s σ H _ I h) fun us s1 hh => ?_) he hpl
  obtain ⟨vs, H1, I1, r1, v, ev, q1⟩ := hh
  subst ev
  refine ⟨I1.kIn, ?_⟩
  obtain ⟨v', rfl, rv⟩ := vals1 r1
  have lim := I1.nolimit
  have big := I1.bk
  obtain ⟨mb, nb, bb⟩ := I1.ok.mod.blt
  have up : ∀ {b : Addr} {m : Str → Option Value}, X.base.Ns b m → s1.heap.Ns b m := fun {b m} ⟨o, es, ep, e, r⟩ => ⟨o, es, ep, big _ _ e, r⟩
  show wpAny _ _ (call (.ref C) [v']) _ _ _
  have hG := up I1.ok.mod.glob
  have hB := up nb
  clear up big
  obtain ⟨hp, g, dr, tk, os⟩ := s1
  refine wpAny_call (sup_made T I1.kIn lim hG hB bb (by have := hr.dp; omega) fun h' tk' e d M => ?_)
  show MkP X pins σ Q (.ref e) ⟨h', g, dr, tk', os⟩
  obtain ⟨oe, fv, hoe, hc, hd, hdat, h1⟩ := M.obj
  have hns := M.ns
  obtain ⟨G', g1, g2⟩ := restrict h' fun b => decide (b ≠ e)
  have gk : ∀ b, b ≠ e → G'.get? b = h'.get? b := fun b hb => g1 b (decide_eq_true hb)
  have ge : G'.get? e = none := g2 e (by simp)
  have old : ∀ b o, hp.get? b = some o → G'.get? b = some o := fun b o q => (gk b (Nat.ne_of_lt (Nat.lt_of_lt_of_le (Heap.lt_size q) M.new))).trans (M.keep b o q)
  have ob : ObjOk X.prog X.w (upd H1 d (.xd [(("value" : Str), v)])) G' d (.xd [(("value" : Str), v)]) := ⟨_, hns.at (fun o q => (gk d M.dne).trans q), fun f => relO_val rv f⟩
  have J : Inv X pins σ (upd H1 d (.xd [(("value" : Str), v)])) ⟨G', g, dr, tk', os⟩ := I1.laid (t' := tk') old M.dbig ob
  refine ⟨e, oe, fv, ⟨G', g, dr, tk', os⟩, _, .ref C, some d, rfl, J, fun b o q => ?_, ge, hoe, ⟨hc, hd⟩, hdat, h1, ?_, rfl, I1.bare, raises_own T.exC T.tyC, q1 d (I1.hok.fresh M.dbig)⟩
  · by_cases hb : b = e
    · have q' : G'.get? b = some o := q
      rw [hb, ge] at q'
      cases q'
    · exact (gk b hb).symm.trans q
  · rw [upd_ne (Ne.symm M.dne)]
    exact I1.hok.fresh M.new
/-- raise C(e) -/
theorem ps_raiseSup {a : Expr} {ta : TA} {W : WX} {p pos pos2 : Pos} {k : Nat} (hc : X.calm = true) (T : SupTxt X.prog X.K C fI qual) (gC : X.mg x = some (.ref C)) (hr : Room k X.A) (tk : Takes X W) (ha : PA X [a] ta) (hg : Gl X x := by rfl) (hdb : (x == ("__debug__" : Str)) = false := by decide)
    (he : starEach (a :: []) X.env = (false, eval a X.env) :: starEach [] X.env := by rfl) (hpl : (backTo pos (starEach [] X.env)).any (·.1) = false := by rfl) :
    PS X (.Raise (some (.Call (.Name x p) [a] [] pos)) none pos2) (fun _ σ H => tMkSup C ta σ H fun cls d H' => W cls d σ H') := ps_raise hc tk (pmk_sup T gC hr ha hg hdb he hpl)
end
end S1

/-! x in o by o's own __contains__, which tells a bool. -/
namespace S1
open PySem PySem.Spec PyProof.Rows L2 StX
section
variable {X : Cx} {CX : CXT} {k : Nat} {f C : Addr} {fd : FuncData} {ps : List Str} {sp : Sp} {E : XK}
def rOwnIn (C : Addr) (sp : Sp) (E : XK) : R2 := fun y x H Q => ∃ a dx fs, x = .ref a ∧ H a = some (.ins C dx fs) ∧ sp [.ref a, y] H (fun v H' => ∃ b, v = .bl b ∧ Q (.bl b) H') E
theorem op_ownIn (F : FnOk X.prog X.w X.K X.mg X.base CX k f fd ps sp) (hr : Room k X.A) (hb : Binds X.K fd ps []) (hx : Passes CX X E)
    (hs : PySem.W.findIn X.K (.ref C) "__contains__" = some (some (.ref f))) (hf : PySem.W.isFn X.K (.ref f) = true) : OpR X (compareOp .In) (rOwnIn C sp E) := by
  intro pins s σ H y x u v Q I ry rx h
  obtain ⟨a, dx, fs, rfl, ha, hsp⟩ := h
  cases rx
  obtain ⟨mA, J, _⟩ := ins_get I.hok ha
  obtain ⟨od, J, _⟩ := J.look
  obtain ⟨m, hF⟩ := I.fr
  refine PySem.W.in_K hF I.ok.mod.kin J hs hf ?_
  refine thn (run_fn (us := [.ref a, u]) (vs := [.ref a, y]) (ds := []) (dvs := []) F hr hb .nil hx I (.cons rfl (.cons ry .nil)) hsp) fun w s' q => ?_
  obtain ⟨z, H', I', rz, b, ez, q'⟩ := q
  subst ez
  cases rz
  exact wpAny_truthy_bool ⟨.bl b, H', I', rfl, q'⟩
end
/-! ### xs == [] -/
section
variable {X : Cx}
def rEqNil : R2 := fun x y H Q => ∃ l e xs, x = .ref l ∧ y = .ref e ∧ H l = some (.lst xs) ∧ H e = some (.lst []) ∧ Q (.bl xs.isEmpty) H
theorem op_eqNil (hu : X.A.units + 64 < cLine) : OpR X (compareOp .Eq) rEqNil := by
  intro pins s σ H x y v u Q I rx ry h
  obtain ⟨l, e, xs, rfl, rfl, hl, he, q⟩ := h
  cases xs with
  | nil => exact op_eqD hu pins s σ H _ _ v u Q I rx ry ⟨.list [], .list [], .lst (SqL.of hl) .nil, .lst (SqL.of he) .nil, by decide +kernel, by decide +kernel, by simp only [PyData.eqv, PyData.eqvAll]; exact q⟩
  | cons z zs =>
    cases rx
    cases ry
    obtain ⟨its, rv, pl, _⟩ := I.list (SqL.of hl)
    obtain ⟨its2, rv2, pl2, _⟩ := I.list (SqL.of he)
    cases rv2
    cases rv with
    | cons h t =>
      show wpAny (model X.prog X.w) X.A (richCompare .Eq (.ref l) (.ref e)) _ _ _
      exact SeqAt.eq_list_lengthsAt pl.isList pl2.isList (by simp) (by omega) ⟨.bl false, H, I, rfl, q⟩
end
end S1

/-! The mathematics of spans: rows of pairs, what they cover, their one canonical form. Plain Lean. -/
namespace M1
abbrev P2 := Int × Int
def covers (ps : List P2) (x : Int) : Prop := ∃ p ∈ ps, p.1 ≤ x ∧ x < p.2
def mem (ps : List P2) (x : Int) : Bool := ps.any fun p => decide (p.1 ≤ x) && decide (x < p.2)
theorem mem_iff {ps : List P2} {x : Int} : mem ps x = true ↔ covers ps x := by
  unfold mem covers
  simp [List.any_eq_true]
theorem covers_nil {x : Int} : ¬ covers [] x := by rintro ⟨p, h, _⟩; cases h
theorem covers_cons {p : P2} {ps : List P2} {x : Int} : covers (p :: ps) x ↔ (p.1 ≤ x ∧ x < p.2) ∨ covers ps x := by
  unfold covers; simp
theorem covers_append {ps qs : List P2} {x : Int} : covers (ps ++ qs) x ↔ covers ps x ∨ covers qs x := by
  unfold covers
  constructor
  · rintro ⟨p, h, q⟩
    rcases List.mem_append.mp h with h | h
    · exact .inl ⟨p, h, q⟩
    · exact .inr ⟨p, h, q⟩
  · rintro (⟨p, h, q⟩ | ⟨p, h, q⟩)
    · exact ⟨p, List.mem_append_left _ h, q⟩
    · exact ⟨p, List.mem_append_right _ h, q⟩
theorem covers_perm {ps qs : List P2} (h : ps.Perm qs) {x : Int} : covers ps x ↔ covers qs x := by
  unfold covers
  constructor
  · rintro ⟨p, m, q⟩; exact ⟨p, h.mem_iff.mp m, q⟩
  · rintro ⟨p, m, q⟩; exact ⟨p, h.mem_iff.mpr m, q⟩
/-- ascending, apart from one another, above lo -/
def CanonFrom : Int → List P2 → Prop
  | _, [] => True
  | lo, p :: r => lo < p.1 ∧ p.1 < p.2 ∧ CanonFrom p.2 r
abbrev Canon (ps : List P2) : Prop := CanonFrom (-1) ps
/-- pairs that may be spans -/
def Ok (p : P2) : Prop := 0 ≤ p.1 ∧ p.1 < p.2 ∧ p.2 ≤ 1000000
def Oks (ps : List P2) : Prop := ∀ p ∈ ps, Ok p
theorem CanonFrom.low {lo : Int} : ∀ {ps : List P2}, CanonFrom lo ps → ∀ {x : Int}, covers ps x → lo < x
  | [], _, x, h => absurd h covers_nil
  | p :: r, ⟨h1, h2, h3⟩, x, h => by
    rcases covers_cons.mp h with ⟨a, b⟩ | h
    · omega
    · have := h3.low h
      omega
theorem canon_unique : ∀ {ps qs : List P2} {lo lo' : Int}, CanonFrom lo ps → CanonFrom lo' qs → (∀ x, covers ps x ↔ covers qs x) → ps = qs
  | [], [], _, _, _, _, _ => rfl
  | [], q :: t, _, _, _, ⟨_, h2, _⟩, h => absurd ((h q.1).mpr (covers_cons.mpr (.inl ⟨Int.le_refl _, h2⟩))) covers_nil
  | p :: r, [], _, _, ⟨_, h2, _⟩, _, h => absurd ((h p.1).mp (covers_cons.mpr (.inl ⟨Int.le_refl _, h2⟩))) covers_nil
  | (a, b) :: r, (c, d) :: t, _, _, ⟨h1, h2, h3⟩, ⟨k1, k2, k3⟩, h => by
    dsimp only at h1 h2 h3 k1 k2 k3
    have low1 : ∀ {x : Int}, covers ((a, b) :: r) x → a ≤ x := fun {x} hx => by
      rcases covers_cons.mp hx with ⟨q, _⟩ | q
      · exact q
      · have := h3.low q
        omega
    have low2 : ∀ {x : Int}, covers ((c, d) :: t) x → c ≤ x := fun {x} hx => by
      rcases covers_cons.mp hx with ⟨q, _⟩ | q
      · exact q
      · have := k3.low q
        omega
    have e1 : a = c := by
      have x1 := low2 ((h a).mp (covers_cons.mpr (.inl ⟨Int.le_refl _, h2⟩)))
      have x2 := low1 ((h c).mpr (covers_cons.mpr (.inl ⟨Int.le_refl _, k2⟩)))
      omega
    subst e1
    have e2 : b = d := by
      have x1 : ¬ covers ((a, b) :: r) b := fun q => by
        rcases covers_cons.mp q with ⟨_, q⟩ | q
        · exact absurd q (Int.lt_irrefl _)
        · exact absurd (h3.low q) (Int.lt_irrefl _)
      have x2 : ¬ covers ((a, d) :: t) d := fun q => by
        rcases covers_cons.mp q with ⟨_, q⟩ | q
        · exact absurd q (Int.lt_irrefl _)
        · exact absurd (k3.low q) (Int.lt_irrefl _)
      rcases Int.lt_trichotomy b d with q | q | q
      · exact absurd ((h b).mpr (covers_cons.mpr (.inl ⟨Int.le_of_lt h2, q⟩))) x1
      · exact q
      · exact absurd ((h d).mp (covers_cons.mpr (.inl ⟨Int.le_of_lt k2, q⟩))) x2
    subst e2
    rw [canon_unique h3 k3 fun x => ?_]
    constructor
    · intro q
      have l := h3.low q
      rcases covers_cons.mp ((h x).mp (covers_cons.mpr (.inr q))) with ⟨_, z⟩ | z
      · dsimp only at z; omega
      · exact z
    · intro q
      have l := k3.low q
      rcases covers_cons.mp ((h x).mpr (covers_cons.mpr (.inr q))) with ⟨_, z⟩ | z
      · dsimp only at z; omega
      · exact z

/-! ### united -/
/-- what has been found, the row at hand -/
structure UnS where
  found : List P2
  first : Int
  last : Int
def put (f : List P2) (a b : Int) : List P2 := if a < b then f ++ [(a, b)] else f
def unStep (s : UnS) (p : P2) : UnS := if s.last < p.1 then ⟨put s.found s.first s.last, p.1, p.2⟩ else ⟨s.found, s.first, if p.2 > s.last then p.2 else s.last⟩
def unEnd (s : UnS) : List P2 := put s.found s.first s.last
def unF (ps : List P2) : List P2 := unEnd (ps.foldl unStep ⟨[], 0, 0⟩)
def lexLe (p q : P2) : Prop := p.1 < q.1 ∨ (p.1 = q.1 ∧ p.2 ≤ q.2)
theorem canon_snoc {lo a b : Int} : ∀ {f : List P2}, CanonFrom lo f → (∀ p ∈ f, p.2 < a) → lo < a → a < b → CanonFrom lo (f ++ [(a, b)])
  | [], _, _, h, k => ⟨h, k, trivial⟩
  | p :: r, ⟨h1, h2, h3⟩, hs, _, k => ⟨h1, h2, canon_snoc h3 (fun q m => hs q (List.mem_cons_of_mem _ m)) (hs p List.mem_cons_self) k⟩
/-- the invariant: C what is covered so far -/
structure UnI (s : UnS) (ps : List P2) : Prop where
  canon : Canon s.found
  below : ∀ p ∈ s.found, p.2 < s.first
  oks : Oks s.found
  f0 : 0 ≤ s.first
  fl : s.first ≤ s.last
  l1 : s.last ≤ 1000000
  cov : ∀ x, (covers s.found x ∨ (s.first ≤ x ∧ x < s.last)) ↔ covers ps x
theorem put_ok {s : UnS} {ps : List P2} (I : UnI s ps) : Canon (put s.found s.first s.last) ∧ Oks (put s.found s.first s.last) ∧ (∀ p ∈ put s.found s.first s.last, p.2 ≤ s.last) ∧ ∀ x, covers (put s.found s.first s.last) x ↔ covers ps x := by
  obtain ⟨c, b, o, f0, fl, l1, cov⟩ := I
  unfold put
  by_cases h : s.first < s.last
  · rw [if_pos h]
    refine ⟨canon_snoc c b (by omega) h, ?_, ?_, fun x => ?_⟩
    · intro p hp
      rcases List.mem_append.mp hp with q | q
      · exact o p q
      · cases (List.mem_singleton.mp q)
        exact ⟨f0, h, l1⟩
    · intro p hp
      rcases List.mem_append.mp hp with q | q
      · have := b p q
        omega
      · cases (List.mem_singleton.mp q)
        exact Int.le_refl _
    · rw [covers_append, covers_cons, ← cov x]
      dsimp only
      constructor
      · rintro (q | q | q)
        · exact .inl q
        · exact .inr q
        · exact absurd q covers_nil
      · rintro (q | q)
        · exact .inl q
        · exact .inr (.inl q)
  · rw [if_neg h]
    refine ⟨c, o, fun p hp => by have := b p hp; omega, fun x => ?_⟩
    rw [← cov x]
    constructor
    · exact .inl
    · rintro (q | q)
      · exact q
      · omega
theorem unI_step {s : UnS} {ps : List P2} {p : P2} (I : UnI s ps) (ok : Ok p) (hp : s.first ≤ p.1) : UnI (unStep s p) (ps ++ [p]) ∧ (unStep s p).first ≤ p.1 := by
  have Z := put_ok I
  obtain ⟨c, b, o, f0, fl, l1, cov⟩ := I
  obtain ⟨k0, k1, k2⟩ := ok
  unfold unStep
  by_cases h : s.last < p.1
  · rw [if_pos h]
    obtain ⟨z1, z2, z3, z4⟩ := Z
    refine ⟨⟨z1, fun q hq => ?_, z2, k0, Int.le_of_lt k1, k2, fun x => ?_⟩, Int.le_refl _⟩
    · have := z3 q hq
      show q.2 < p.1
      omega
    · rw [covers_append, covers_cons, ← z4 x]
      constructor
      · rintro (q | q)
        · exact .inl q
        · exact .inr (.inl q)
      · rintro (q | q | q)
        · exact .inl q
        · exact .inr q
        · exact absurd q covers_nil
  · rw [if_neg h]
    refine ⟨⟨c, b, o, f0, ?_, ?_, fun x => ?_⟩, hp⟩
    · show s.first ≤ if p.2 > s.last then p.2 else s.last
      split <;> omega
    · show (if p.2 > s.last then p.2 else s.last) ≤ 1000000
      split <;> omega
    · show (covers s.found x ∨ (s.first ≤ x ∧ x < if p.2 > s.last then p.2 else s.last)) ↔ _
      rw [covers_append, covers_cons, ← cov x]
      constructor
      · rintro (q | ⟨q1, q2⟩)
        · exact .inl (.inl q)
        · by_cases e : x < s.last
          · exact .inl (.inr ⟨q1, e⟩)
          · refine .inr (.inl ⟨by omega, ?_⟩)
            split at q2 <;> omega
      · rintro ((q | ⟨q1, q2⟩) | ⟨q1, q2⟩ | q)
        · exact .inl q
        · refine .inr ⟨q1, ?_⟩
          split <;> omega
        · refine .inr ⟨by omega, ?_⟩
          split <;> omega
        · exact absurd q covers_nil
theorem unI_fold : ∀ {l : List P2} {s : UnS} {ps : List P2}, UnI s ps → Oks l → (∀ p ∈ l, s.first ≤ p.1) → l.Pairwise (fun p q => p.1 ≤ q.1) → UnI (l.foldl unStep s) (ps ++ l)
  | [], s, ps, I, _, _, _ => by rw [List.append_nil]; exact I
  | p :: l, s, ps, I, o, h, w => by
    obtain ⟨I1, h1⟩ := unI_step I (o p List.mem_cons_self) (h p List.mem_cons_self)
    have w' := List.pairwise_cons.mp w
    have := unI_fold (l := l) I1 (fun q m => o q (List.mem_cons_of_mem _ m)) (fun q m => Int.le_trans h1 (w'.1 q m)) w'.2
    rw [List.append_assoc] at this
    exact this
theorem unI_nil : UnI ⟨[], 0, 0⟩ [] := by
  refine ⟨trivial, (fun p h => nomatch h), (fun p h => nomatch h), Int.le_refl _, Int.le_refl _, (by show (0 : Int) ≤ 1000000; decide), fun x => ?_⟩
  constructor
  · rintro (q | ⟨q, r⟩)
    · exact q
    · dsimp only at q r; omega
  · exact .inl
/-- what united makes of sorted pairs -/
theorem unF_ok {l : List P2} (o : Oks l) (w : l.Pairwise (fun p q => p.1 ≤ q.1)) : Canon (unF l) ∧ Oks (unF l) ∧ ∀ x, covers (unF l) x ↔ covers l x := by
  have I := unI_fold unI_nil o (fun p m => (o p m).1) w
  rw [List.nil_append] at I
  obtain ⟨a, b, _, d⟩ := put_ok I
  exact ⟨a, b, d⟩

/-! ### shared, rest_of -/
def meet (p q : P2) : P2 := (if q.1 > p.1 then q.1 else p.1, if q.2 < p.2 then q.2 else p.2)
def sharedF (a b : List P2) : List P2 := (a.flatMap fun p => b.map (meet p)).filter fun p => decide (p.1 < p.2)
theorem covers_shared {a b : List P2} {x : Int} : covers (sharedF a b) x ↔ covers a x ∧ covers b x := by
  unfold covers sharedF
  constructor
  · rintro ⟨r, hr, h1, h2⟩
    obtain ⟨hr, _⟩ := List.mem_filter.mp hr
    obtain ⟨p, hp, hr⟩ := List.mem_flatMap.mp hr
    obtain ⟨q, hq, rfl⟩ := List.mem_map.mp hr
    unfold meet at h1 h2
    dsimp only at h1 h2
    refine ⟨⟨p, hp, ?_⟩, ⟨q, hq, ?_⟩⟩ <;> (split at h1 <;> split at h2 <;> omega)
  · rintro ⟨⟨p, hp, h1, h2⟩, ⟨q, hq, k1, k2⟩⟩
    have e1 : (meet p q).1 ≤ x := by unfold meet; dsimp only; split <;> omega
    have e2 : x < (meet p q).2 := by unfold meet; dsimp only; split <;> omega
    refine ⟨meet p q, List.mem_filter.mpr ⟨List.mem_flatMap.mpr ⟨p, hp, List.mem_map.mpr ⟨q, hq, rfl⟩⟩, decide_eq_true (by omega)⟩, e1, e2⟩
theorem oks_shared {a b : List P2} (ha : Oks a) (hb : Oks b) : Oks (sharedF a b) := by
  intro r hr
  obtain ⟨hr, h⟩ := List.mem_filter.mp hr
  obtain ⟨p, hp, hr⟩ := List.mem_flatMap.mp hr
  obtain ⟨q, hq, rfl⟩ := List.mem_map.mp hr
  obtain ⟨a1, a2, a3⟩ := ha p hp
  obtain ⟨b1, b2, b3⟩ := hb q hq
  have h' := of_decide_eq_true h
  refine ⟨?_, h', ?_⟩ <;> (unfold meet; dsimp only; split <;> omega)
def restF (ps : List P2) : List P2 := (((0 : Int) :: ps.map (·.2)).zip (ps.map (·.1) ++ [1000000])).filter fun p => decide (p.1 < p.2)
def gaps : Int → List P2 → List P2
  | lo, [] => [(lo, 1000000)]
  | lo, p :: r => (lo, p.1) :: gaps p.2 r
theorem zip_gaps : ∀ (ps : List P2) (lo : Int), (lo :: ps.map (·.2)).zip (ps.map (·.1) ++ [1000000]) = gaps lo ps
  | [], lo => rfl
  | p :: r, lo => by
    show (lo, p.1) :: ((p.2 :: r.map (·.2)).zip (r.map (·.1) ++ [1000000])) = _
    rw [zip_gaps r p.2]
    rfl
theorem covers_filter {ps : List P2} {x : Int} : covers (ps.filter fun p => decide (p.1 < p.2)) x ↔ covers ps x := by
  unfold covers
  constructor
  · rintro ⟨p, h, q⟩; exact ⟨p, (List.mem_filter.mp h).1, q⟩
  · rintro ⟨p, h, q⟩; exact ⟨p, List.mem_filter.mpr ⟨h, decide_eq_true (by omega)⟩, q⟩
theorem covers_gaps : ∀ {ps : List P2} {lo lo' : Int}, CanonFrom lo' ps → lo' ≤ lo → (∀ p ∈ ps, p.2 ≤ 1000000) → (∀ p ∈ ps, lo ≤ p.1) → ∀ x, covers (gaps lo ps) x ↔ (lo ≤ x ∧ x < 1000000 ∧ ¬ covers ps x)
  | [], lo, lo', _, _, _, _, x => by
    unfold gaps
    rw [covers_cons]
    constructor
    · rintro (⟨a, b⟩ | q)
      · exact ⟨a, b, covers_nil⟩
      · exact absurd q covers_nil
    · rintro ⟨a, b, _⟩
      exact .inl ⟨a, b⟩
  | p :: r, lo, lo', ⟨h1, h2, h3⟩, hl, hm, ho, x => by
    have hp := hm p List.mem_cons_self
    have hlo := ho p List.mem_cons_self
    have low : ∀ q ∈ r, p.2 ≤ q.1 := by
      intro q hq
      have hc : ∀ {f : List P2} {l : Int}, CanonFrom l f → ∀ q ∈ f, l < q.1 := by
        intro f
        induction f with
        | nil => intro l _ q h; cases h
        | cons a t ih =>
          intro l ⟨g1, g2, g3⟩ q h
          rcases List.mem_cons.mp h with e | e
          · rw [e]; exact g1
          · have := ih g3 q e
            omega
      exact Int.le_of_lt (hc h3 q hq)
    have ih := covers_gaps h3 (Int.le_refl p.2) (fun q m => hm q (List.mem_cons_of_mem _ m)) low x
    show covers ((lo, p.1) :: gaps p.2 r) x ↔ _
    rw [covers_cons, ih, covers_cons]
    dsimp only
    constructor
    · rintro (⟨a, b⟩ | ⟨a, b, c⟩)
      · refine ⟨a, by omega, ?_⟩
        rintro (q | q)
        · omega
        · have := h3.low q
          omega
      · refine ⟨by omega, b, ?_⟩
        rintro (q | q)
        · omega
        · exact c q
    · rintro ⟨a, b, c⟩
      by_cases e : x < p.1
      · exact .inl ⟨a, e⟩
      · refine .inr ⟨?_, b, fun q => c (.inr q)⟩
        rcases Int.lt_or_le x p.2 with q | q
        · exact absurd (.inl ⟨by omega, q⟩) c
        · exact q
theorem covers_rest {ps : List P2} (c : Canon ps) (o : Oks ps) (x : Int) : covers (restF ps) x ↔ (0 ≤ x ∧ x < 1000000 ∧ ¬ covers ps x) := by
  unfold restF
  rw [zip_gaps, covers_filter]
  exact covers_gaps c (by omega) (fun p m => (o p m).2.2) (fun p m => (o p m).1) x
theorem gaps_bounds : ∀ {ps : List P2} {lo : Int}, Oks ps → 0 ≤ lo → ∀ p ∈ gaps lo ps, 0 ≤ p.1 ∧ p.2 ≤ 1000000
  | [], lo, _, h, p, hp => by
    unfold gaps at hp
    cases (List.mem_singleton.mp hp)
    exact ⟨h, Int.le_refl _⟩
  | q :: r, lo, o, h, p, hp => by
    obtain ⟨a, b, c⟩ := o q List.mem_cons_self
    rcases List.mem_cons.mp (show p ∈ (lo, q.1) :: gaps q.2 r from hp) with e | e
    · rw [e]; exact ⟨h, by show q.1 ≤ 1000000; omega⟩
    · exact gaps_bounds (fun s m => o s (List.mem_cons_of_mem _ m)) (by omega) p e
theorem oks_rest {ps : List P2} (o : Oks ps) : Oks (restF ps) := by
  intro p hp
  unfold restF at hp
  rw [zip_gaps] at hp
  obtain ⟨h1, h2⟩ := List.mem_filter.mp hp
  obtain ⟨a, b⟩ := gaps_bounds o (Int.le_refl 0) p h1
  exact ⟨a, of_decide_eq_true h2, b⟩

/-! ### how many -/
def total (ps : List P2) : Int := (ps.map fun p => p.2 - p.1).sum
def mostN : Nat := 1000000
theorem mostN_eq : (mostN : Int) = 1000000 := rfl
def cnt (ps : List P2) : Nat := (List.range mostN).countP fun n : Nat => mem ps (n : Int)
theorem countP_or_and {α : Type} (p q : α → Bool) : ∀ l : List α, l.countP (fun x => p x || q x) + l.countP (fun x => p x && q x) = l.countP p + l.countP q
  | [] => rfl
  | a :: l => by
    have ih := countP_or_and p q l
    simp only [List.countP_cons]
    cases p a <;> cases q a <;> simp <;> omega
theorem countP_range_iv : ∀ (N : Nat) (a b : Int), 0 ≤ a → a ≤ b → b ≤ N → (((List.range N).countP fun n : Nat => decide (a ≤ (n : Int)) && decide ((n : Int) < b) : Nat) : Int) = b - a
  | 0, a, b, h1, h2, h3 => by simp at h3 ⊢; omega
  | N + 1, a, b, h1, h2, h3 => by
    rw [List.range_succ, List.countP_append, List.countP_singleton]
    by_cases hb : b ≤ N
    · have ih := countP_range_iv N a b h1 h2 hb
      have e : (decide (a ≤ (N : Int)) && decide ((N : Int) < b)) = false := by
        rw [decide_eq_false (show ¬ (N : Int) < b by omega), Bool.and_false]
      rw [e]
      simp only [Bool.false_eq_true, if_false, Nat.add_zero]
      exact ih
    · have eb : b = N + 1 := by omega
      by_cases ha : a ≤ N
      · have ih := countP_range_iv N a N h1 ha (Int.le_refl _)
        have c : (List.range N).countP (fun n : Nat => decide (a ≤ (n : Int)) && decide ((n : Int) < b)) = (List.range N).countP fun n : Nat => decide (a ≤ (n : Int)) && decide ((n : Int) < (N : Int)) := by
          apply List.countP_congr
          intro n hn
          have hn := List.mem_range.mp hn
          rw [decide_eq_true (show (n : Int) < b by omega), decide_eq_true (show (n : Int) < (N : Int) by omega)]
        rw [c]
        have e : (decide (a ≤ (N : Int)) && decide ((N : Int) < b)) = true := by
          rw [decide_eq_true (show (N : Int) < b by omega), decide_eq_true ha, Bool.and_true]
        rw [e]
        simp only [if_true]
        omega
      · have ea : a = b := by omega
        have c : (List.range N).countP (fun n : Nat => decide (a ≤ (n : Int)) && decide ((n : Int) < b)) = 0 := by
          rw [List.countP_eq_zero]
          intro n hn
          rw [decide_eq_false (show ¬ a ≤ (n : Int) by have := List.mem_range.mp hn; omega), Bool.false_and]
          simp
        rw [c]
        have e : (decide (a ≤ (N : Int)) && decide ((N : Int) < b)) = false := by
          rw [decide_eq_false (show ¬ a ≤ (N : Int) by omega), Bool.false_and]
        rw [e]
        simp
        omega
theorem total_cnt_from : ∀ {ps : List P2} {lo : Int}, CanonFrom lo ps → Oks ps → total ps = (cnt ps : Int)
  | [], _, _, _ => by
    unfold total cnt mem
    rw [show (List.range mostN).countP (fun n : Nat => ([] : List P2).any fun p => decide (p.1 ≤ (n : Int)) && decide ((n : Int) < p.2)) = 0 from by
      rw [List.countP_eq_zero]
      intro n _
      simp]
    rfl
  | p :: r, lo, ⟨h1, h2, h3⟩, o => by
    obtain ⟨o1, o2, o3⟩ := o p List.mem_cons_self
    have ih := total_cnt_from h3 fun q m => o q (List.mem_cons_of_mem _ m)
    have iv := countP_range_iv mostN p.1 p.2 o1 (Int.le_of_lt o2) (by rw [mostN_eq]; exact o3)
    have oa := countP_or_and (fun n : Nat => decide (p.1 ≤ (n : Int)) && decide ((n : Int) < p.2)) (fun n : Nat => mem r (n : Int)) (List.range mostN)
    have z : (List.range mostN).countP (fun n : Nat => (decide (p.1 ≤ (n : Int)) && decide ((n : Int) < p.2)) && mem r (n : Int)) = 0 := by
      rw [List.countP_eq_zero]
      intro n _ hn
      rw [Bool.and_eq_true, Bool.and_eq_true] at hn
      have q := h3.low (mem_iff.mp hn.2)
      have := of_decide_eq_true hn.1.2
      omega
    have e : cnt (p :: r) = (List.range mostN).countP (fun n : Nat => (decide (p.1 ≤ (n : Int)) && decide ((n : Int) < p.2)) || mem r (n : Int)) := rfl
    have t : total (p :: r) = (p.2 - p.1) + total r := by unfold total; rw [List.map_cons, List.sum_cons]
    unfold cnt at ih
    rw [e, t]
    omega
theorem total_cnt {ps : List P2} (c : Canon ps) (o : Oks ps) : total ps = (cnt ps : Int) := total_cnt_from c o
theorem cnt_of {ps qs : List P2} (h : ∀ x, covers ps x ↔ covers qs x) : cnt ps = cnt qs := by
  unfold cnt
  apply List.countP_congr
  intro n _
  rw [mem_iff, mem_iff]
  exact h _
theorem cnt_or_and {a b u i : List P2} (hu : ∀ x, covers u x ↔ covers a x ∨ covers b x) (hi : ∀ x, covers i x ↔ covers a x ∧ covers b x) : cnt u + cnt i = cnt a + cnt b := by
  have oa := countP_or_and (fun n : Nat => mem a (n : Int)) (fun n : Nat => mem b (n : Int)) (List.range mostN)
  have e1 : cnt u = (List.range mostN).countP (fun n : Nat => mem a (n : Int) || mem b (n : Int)) := by
    unfold cnt
    apply List.countP_congr
    intro n _
    rw [mem_iff, Bool.or_eq_true, mem_iff, mem_iff]
    exact hu _
  have e2 : cnt i = (List.range mostN).countP (fun n : Nat => mem a (n : Int) && mem b (n : Int)) := by
    unfold cnt
    apply List.countP_congr
    intro n _
    rw [mem_iff, Bool.and_eq_true, mem_iff, mem_iff]
    exact hi _
  rw [e1, e2]
  exact oa
theorem total_nonneg {ps : List P2} (o : Oks ps) : 0 ≤ total ps := by
  unfold total
  induction ps with
  | nil => exact Int.le_refl _
  | cons p r ih =>
    rw [List.map_cons, List.sum_cons]
    have := ih fun q m => o q (List.mem_cons_of_mem _ m)
    obtain ⟨_, h, _⟩ := o p List.mem_cons_self
    omega
theorem cnt_le (ps : List P2) : cnt ps ≤ mostN := by
  unfold cnt
  have := List.countP_le_length (p := fun n : Nat => mem ps (n : Int)) (l := List.range mostN)
  rwa [List.length_range] at this

/-! ### the law's couples of ascending positions -/
def cpStep (f : List P2) (x : Int) : List P2 := match f.getLast? with
  | some p => if p.2 = x then f.dropLast ++ [(p.1, x + 1)] else f ++ [(x, x + 1)]
  | none => [(x, x + 1)]
def cpF (ks : List Int) : List P2 := ks.foldl cpStep []
theorem cpStep_nil (x : Int) : cpStep [] x = [(x, x + 1)] := rfl
theorem cpStep_snoc (g : List P2) (p : P2) (x : Int) : cpStep (g ++ [p]) x = if p.2 = x then g ++ [(p.1, x + 1)] else g ++ [p] ++ [(x, x + 1)] := by
  unfold cpStep
  rw [List.getLast?_concat]
  show (if p.2 = x then (g ++ [p]).dropLast ++ [(p.1, x + 1)] else g ++ [p] ++ [(x, x + 1)]) = _
  rw [List.dropLast_concat]
theorem canon_ext {lo a b b' : Int} (hb : b ≤ b') : ∀ {g : List P2}, CanonFrom lo (g ++ [(a, b)]) → CanonFrom lo (g ++ [(a, b')])
  | [], ⟨h1, h2, _⟩ => ⟨h1, Int.lt_of_lt_of_le h2 hb, trivial⟩
  | p :: r, ⟨h1, h2, h3⟩ => ⟨h1, h2, canon_ext hb h3⟩
theorem canon_tops {lo : Int} : ∀ {g : List P2} {p : P2}, CanonFrom lo (g ++ [p]) → ∀ q ∈ g, q.2 < p.1
  | [], _, _, q, h => nomatch h
  | a :: r, p, ⟨h1, h2, h3⟩, q, h => by
    rcases List.mem_cons.mp h with e | e
    · rw [e]
      have hc : ∀ {f : List P2} {l : Int}, CanonFrom l f → ∀ q ∈ f, l < q.1 := by
        intro f
        induction f with
        | nil => intro l _ q h; cases h
        | cons a t ih =>
          intro l ⟨g1, g2, g3⟩ q h
          rcases List.mem_cons.mp h with e | e
          · rw [e]; exact g1
          · have := ih g3 q e
            omega
      exact hc h3 p (List.mem_append_right _ (List.mem_singleton.mpr rfl))
    · exact canon_tops h3 q e
structure CpI (f : List P2) (ks : List Int) : Prop where
  canon : Canon f
  oks : Oks f
  cov : ∀ x, covers f x ↔ x ∈ ks
theorem cpI_nil : CpI [] [] := ⟨trivial, (fun p h => nomatch h), fun x => ⟨fun h => absurd h covers_nil, fun h => nomatch h⟩⟩
theorem cpI_step {f : List P2} {ks : List Int} {x : Int} (I : CpI f ks) (hx : ∀ k ∈ ks, k < x) (h0 : 0 ≤ x) (h1 : x < 1000000) : CpI (cpStep f x) (ks ++ [x]) := by
  obtain ⟨c, o, cov⟩ := I
  have tops : ∀ p ∈ f, p.2 ≤ x := fun p hp => by
    obtain ⟨a, b, d⟩ := o p hp
    have m : covers f (p.2 - 1) := ⟨p, hp, by omega, by omega⟩
    have := hx _ ((cov _).mp m)
    omega
  rcases List.eq_nil_or_concat f with e | ⟨g, p, e⟩
  · subst e
    rw [cpStep_nil]
    refine ⟨⟨by show (-1 : Int) < x; omega, by show x < x + 1; omega, trivial⟩, fun p hp => ?_, fun y => ?_⟩
    · cases (List.mem_singleton.mp hp)
      exact ⟨h0, by show x < x + 1; omega, by show x + 1 ≤ 1000000; omega⟩
    · rw [covers_cons, List.mem_append, List.mem_singleton, ← cov y]
      dsimp only
      constructor
      · rintro (⟨a, b⟩ | q)
        · exact .inr (by omega)
        · exact .inl q
      · rintro (q | q)
        · exact .inr q
        · exact .inl ⟨by omega, by omega⟩
  · have e' : f = g ++ [p] := by rw [e, List.concat_eq_append]
    subst e'
    rw [cpStep_snoc]
    have hp := tops p (List.mem_append_right _ (List.mem_singleton.mpr rfl))
    obtain ⟨p1, p2, p3⟩ := o p (List.mem_append_right _ (List.mem_singleton.mpr rfl))
    by_cases h : p.2 = x
    · rw [if_pos h]
      refine ⟨canon_ext (b := p.2) (by omega) c, fun q hq => ?_, fun y => ?_⟩
      · rcases List.mem_append.mp hq with q' | q'
        · exact o q (List.mem_append_left _ q')
        · cases (List.mem_singleton.mp q')
          exact ⟨p1, by show p.1 < x + 1; omega, by show x + 1 ≤ 1000000; omega⟩
      · have hc := cov y
        rw [covers_append, covers_cons] at hc
        rw [covers_append, covers_cons, List.mem_append, List.mem_singleton, ← hc]
        dsimp only
        constructor
        · rintro (q | ⟨a, b⟩ | q)
          · exact .inl (.inl q)
          · by_cases z : y < p.2
            · exact .inl (.inr (.inl ⟨a, z⟩))
            · exact .inr (by omega)
          · exact absurd q covers_nil
        · rintro ((q | ⟨a, b⟩ | q) | q)
          · exact .inl q
          · exact .inr (.inl ⟨a, by omega⟩)
          · exact absurd q covers_nil
          · exact .inr (.inl ⟨by omega, by omega⟩)
    · rw [if_neg h]
      refine ⟨canon_snoc c (fun q hq => ?_) (by omega) (by omega), fun q hq => ?_, fun y => ?_⟩
      · have := tops q hq
        rcases List.mem_append.mp hq with q' | q'
        · have := canon_tops c q q'
          omega
        · cases (List.mem_singleton.mp q')
          omega
      · rcases List.mem_append.mp hq with q' | q'
        · exact o q q'
        · cases (List.mem_singleton.mp q')
          exact ⟨h0, by show x < x + 1; omega, by show x + 1 ≤ 1000000; omega⟩
      · rw [covers_append, covers_cons, List.mem_append, List.mem_singleton, ← cov y]
        dsimp only
        constructor
        · rintro (q | ⟨a, b⟩ | q)
          · exact .inl q
          · exact .inr (by omega)
          · exact absurd q covers_nil
        · rintro (q | q)
          · exact .inl q
          · exact .inr (.inl ⟨by omega, by omega⟩)
theorem cpI_fold : ∀ {l : List Int} {f : List P2} {ks : List Int}, CpI f ks → (∀ k ∈ ks, ∀ x ∈ l, k < x) → l.Pairwise (· < ·) → (∀ x ∈ l, 0 ≤ x ∧ x < 1000000) → CpI (l.foldl cpStep f) (ks ++ l)
  | [], f, ks, I, _, _, _ => by rw [List.append_nil]; exact I
  | x :: l, f, ks, I, h, w, o => by
    have w' := List.pairwise_cons.mp w
    have I1 := cpI_step I (fun k hk => h k hk x List.mem_cons_self) (o x List.mem_cons_self).1 (o x List.mem_cons_self).2
    have := cpI_fold (l := l) I1 (fun k hk y hy => by
      rcases List.mem_append.mp hk with q | q
      · exact h k q y (List.mem_cons_of_mem _ hy)
      · rw [List.mem_singleton.mp q]
        exact w'.1 y hy) w'.2 fun y hy => o y (List.mem_cons_of_mem _ hy)
    rw [List.append_assoc] at this
    exact this
theorem cpF_ok {ks : List Int} (w : ks.Pairwise (· < ·)) (o : ∀ x ∈ ks, 0 ≤ x ∧ x < 1000000) : Canon (cpF ks) ∧ Oks (cpF ks) ∧ ∀ x, covers (cpF ks) x ↔ x ∈ ks := by
  have I := cpI_fold cpI_nil (fun k h => nomatch h) w o
  rw [List.nil_append] at I
  exact ⟨I.canon, I.oks, I.cov⟩
theorem strict_of {ks : List Int} (w : ks.Pairwise (· ≤ ·)) (nd : ks.Nodup) : ks.Pairwise (· < ·) := by
  have h := List.Pairwise.and w nd
  exact h.imp fun {a b} ⟨h1, h2⟩ => by omega
theorem len_total : ∀ {ps : List P2}, Oks ps → (ps.length : Int) ≤ total ps
  | [], _ => by show (0 : Int) ≤ 0; decide
  | p :: r, o => by
    have h1 := len_total fun q m => o q (List.mem_cons_of_mem p m)
    obtain ⟨_, h2, _⟩ := o p List.mem_cons_self
    show ((r.length + 1 : Nat) : Int) ≤ ((p :: r).map fun p => p.2 - p.1).sum
    rw [List.map_cons, List.sum_cons]
    have h3 : total r = (r.map fun p => p.2 - p.1).sum := rfl
    omega
theorem len_cnt {ps : List P2} (c : Canon ps) (o : Oks ps) : ps.length ≤ cnt ps := by
  have h1 := len_total o
  rw [total_cnt c o] at h1
  omega
theorem len_of {ps : List P2} (c : Canon ps) (o : Oks ps) : ps.length ≤ mostN := Nat.le_trans (len_cnt c o) (cnt_le ps)
theorem countP_le_of {α : Type} {p q : α → Bool} (h : ∀ a, p a = true → q a = true) : ∀ l : List α, l.countP p ≤ l.countP q
  | [] => by simp
  | a :: l => by
    have ih := countP_le_of h l
    rw [List.countP_cons, List.countP_cons]
    by_cases e : p a = true
    · rw [if_pos e, if_pos (h a e)]
      omega
    · rw [if_neg e]
      split <;> omega
theorem countP_or_le {α : Type} (p q : α → Bool) (l : List α) : l.countP (fun x => p x || q x) ≤ l.countP p + l.countP q := by
  have := countP_or_and p q l
  omega
theorem countP_one (N : Nat) (k : Int) : (List.range N).countP (fun n : Nat => decide ((n : Int) = k)) ≤ 1 := by
  by_cases h : 0 ≤ k ∧ k < (N : Int)
  · have e := countP_range_iv N k (k + 1) h.1 (by omega) (by omega)
    have e2 : ((List.range N).countP fun n : Nat => decide ((n : Int) = k)) ≤ (List.range N).countP fun n : Nat => decide (k ≤ (n : Int)) && decide ((n : Int) < k + 1) :=
      countP_le_of (fun n hn => by
        have hn := of_decide_eq_true hn
        rw [Bool.and_eq_true]
        exact ⟨decide_eq_true (by omega), decide_eq_true (by omega)⟩) _
    omega
  · have e : (List.range N).countP (fun n : Nat => decide ((n : Int) = k)) = 0 := by
      rw [List.countP_eq_zero]
      intro n hn hc
      have hn := List.mem_range.mp hn
      have hc := of_decide_eq_true hc
      exact h ⟨by omega, by omega⟩
    omega
theorem countP_keys (N : Nat) : ∀ ks : List Int, (List.range N).countP (fun n : Nat => decide ((n : Int) ∈ ks)) ≤ ks.length
  | [] => by
    rw [show (List.range N).countP (fun n : Nat => decide ((n : Int) ∈ ([] : List Int))) = 0 from by
      rw [List.countP_eq_zero]
      intro n _ hc
      exact absurd (of_decide_eq_true hc) List.not_mem_nil]
    exact Nat.zero_le _
  | k :: r => by
    have ih := countP_keys N r
    have e1 := countP_one N k
    have e2 := countP_or_le (fun n : Nat => decide ((n : Int) = k)) (fun n : Nat => decide ((n : Int) ∈ r)) (List.range N)
    have e3 : (List.range N).countP (fun n : Nat => decide ((n : Int) ∈ k :: r)) ≤ (List.range N).countP fun n : Nat => decide ((n : Int) = k) || decide ((n : Int) ∈ r) :=
      countP_le_of (fun n hn => by
        rw [Bool.or_eq_true]
        rcases List.mem_cons.mp (of_decide_eq_true hn) with e | e
        · exact .inl (decide_eq_true e)
        · exact .inr (decide_eq_true e)) _
    rw [List.length_cons]
    omega
theorem cnt_keys {ps : List P2} {ks : List Int} (h : ∀ x, covers ps x → x ∈ ks) : cnt ps ≤ ks.length :=
  Nat.le_trans (countP_le_of (fun n hn => decide_eq_true (h _ (mem_iff.mp hn))) _) (countP_keys mostN ks)
theorem cnt_mono {ps qs : List P2} (h : ∀ x, covers ps x → covers qs x) : cnt ps ≤ cnt qs :=
  countP_le_of (fun n hn => mem_iff.mpr (h _ (mem_iff.mp hn))) _
theorem cnt_nil : cnt [] = 0 := by
  unfold cnt
  rw [List.countP_eq_zero]
  intro n _ hc
  exact absurd (mem_iff.mp hc) covers_nil
theorem cnt_split {a s i : List P2} (ha : ∀ x, covers a x ↔ covers s x ∨ covers i x) (hd : ∀ x, ¬ (covers s x ∧ covers i x)) : cnt a = cnt s + cnt i := by
  have := cnt_or_and (a := s) (b := i) (u := a) (i := []) ha (fun x => ⟨fun z => absurd z covers_nil, fun z => absurd z (hd x)⟩)
  rw [cnt_nil] at this
  omega
theorem cnt_or_le {a b u : List P2} (h : ∀ x, covers u x ↔ covers a x ∨ covers b x) : cnt u ≤ cnt a + cnt b := by
  have := cnt_or_and (a := a) (b := b) (u := u) (i := sharedF a b) h fun x => covers_shared
  omega
end M1

namespace S1
open PySem PySem.Spec PyProof.Rows L2 StX
/-! ### a def as it may be called: no exception leaves it -/
structure Cal (P : Program) (w : World) (K : PySem.W.Frag) (mg : Str → Option Value) (base : Heap) (k : Nat) (x : Str) (ps : List Str) (sp : Sp) (f : Addr) (fd : FuncData) : Prop where
  ok : FnOk P w K mg base CX0 k f fd ps sp
  gm : mg x = some (.ref f)
  kp : PySem.W.keepIn K (.ref f) = true
  b : Binds K fd ps []
section
variable {X : Cx} {k m : Nat} {f : Addr} {fd : FuncData} {ps : List Str} {sp : Sp} {x : Str} {p pos : Pos} {e : Expr} {es : List Expr} {t : TA}
theorem pe_c (D : Cal X.prog X.w X.K X.mg X.base k x ps sp f fd) (hr : Room m X.A) (hg : Gl X x) (ha : PA X (e :: es) t) (hk : k ≤ m := by decide) (hdb : (x == ("__debug__" : Str)) = false := by decide)
    (he : starEach (e :: es) X.env = (false, eval e X.env) :: starEach es X.env := by rfl) (hpl : (backTo pos (starEach es X.env)).any (·.1) = false := by rfl) : PE X (.Call (.Name x p) (e :: es) [] pos) (tCall sp [] E0 t) :=
  pe_call D.ok (hr.mono hk) hg D.gm D.kp D.b .nil pass0 ha hdb he hpl
theorem pe_c0 (D : Cal X.prog X.w X.K X.mg X.base k x ps sp f fd) (hr : Room m X.A) (hg : Gl X x) (hk : k ≤ m := by decide) (hdb : (x == ("__debug__" : Str)) = false := by decide) : PE X (.Call (.Name x p) [] [] pos) (tCall sp [] E0 tNil) :=
  pe_call0 D.ok (hr.mono hk) hg D.gm D.kp D.b .nil pass0 hdb
/-- a module's whole number -/
theorem pe_gi {i : Int} (hg : Gl X x) (h : ∃ t, X.mg x = some (.int i t)) (hd : (x == ("__debug__" : Str)) = false := by decide) : PE X (.Name x pos) (tC (.int i)) := by
  obtain ⟨t, h⟩ := h
  exact pe_glob hg h ⟨t, rfl⟩ hd
end
/-! ### comprehensions and loops over anything that is walked n times -/
theorem yesT {σ : L2.St} {H : Hp} {F G : Hp → Prop} (h : F H) : tYes σ H fun b H' => if b = true then F H' else G H' := by
  show if true = true then F H else G H
  rw [if_pos rfl]
  exact h
theorem lc_it {J : It} {n : Nat} {B : V → Hp → (Hp → Prop) → Prop} {H1 : Hp} {Qd : Hp → Prop} (Pv : Nat → Hp → Prop) (h0 : Pv 0 H1) (hgo : ∀ i H, i < n → Pv i H → J.go i H) (hst : ∀ H, Pv n H → J.stop n H)
    (hs : ∀ i H x H', i < n → Pv i H → J.yld i H x H' → B x H' (Pv (i + 1))) (hd : ∀ H, Pv n H → Qd H) :
    ∃ W : Nat → Nat → Hp → Prop, (∃ m, W 0 m H1) ∧ ∀ i m H, W i m H →
      (J.stop i H ∧ Qd H) ∨ (J.go i H ∧ ∃ Nx : Hp → Prop, (∀ H', Nx H' → ∃ m', m' < m ∧ W (i + 1) m' H') ∧ ∀ x H', J.yld i H x H' → B x H' Nx) := by
  refine ⟨fun i m H => m = n - i ∧ i ≤ n ∧ Pv i H, ⟨n, by simp, Nat.zero_le _, h0⟩, ?_⟩
  rintro i m H ⟨rfl, hi, p⟩
  by_cases hlt : i < n
  · exact .inr ⟨hgo i H hlt p, Pv (i + 1), fun H' p' => ⟨n - (i + 1), by omega, rfl, hlt, p'⟩, fun x H' y => hs i H x H' hlt p y⟩
  · have e : i = n := by omega
    subst e
    exact .inl ⟨hst H p, hd H p⟩
theorem for_it {J : It} {n : Nat} {g : TG} {tb : TS} {D : Ends} {σ : L2.St} {H : Hp} (Pv : Nat → L2.St → Hp → Prop) (h0 : Pv 0 σ H) (hgo : ∀ i σ H, i < n → Pv i σ H → J.go i H) (hst : ∀ σ H, Pv n σ H → J.stop n H)
    (hs : ∀ i σ H x H', i < n → Pv i σ H → J.yld i H x H' → g x σ H' fun σ2 H2 => tb { D with nx := Pv (i + 1), ct := Pv (i + 1), bk := D.nx } σ2 H2) (hd : ∀ σ H, Pv n σ H → D.nx σ H) :
    ∃ W : Nat → Nat → L2.St → Hp → Prop, (∃ m, W 0 m σ H) ∧ ∀ i m σ H, W i m σ H →
      (J.stop i H ∧ D.nx σ H) ∨ (J.go i H ∧ ∃ N : L2.St → Hp → Prop, (∀ σ' H', N σ' H' → ∃ m', m' < m ∧ W (i + 1) m' σ' H') ∧ ∀ v H', J.yld i H v H' → g v σ H' fun σ2 H2 => tb { D with nx := N, ct := N, bk := D.nx } σ2 H2) := by
  refine ⟨fun i m σ H => m = n - i ∧ i ≤ n ∧ Pv i σ H, ⟨n, by simp, Nat.zero_le _, h0⟩, ?_⟩
  rintro i m σ H ⟨rfl, hi, p⟩
  by_cases hlt : i < n
  · exact .inr ⟨hgo i σ H hlt p, Pv (i + 1), fun σ' H' p' => ⟨n - (i + 1), by omega, rfl, hlt, p'⟩, fun x H' y => hs i σ H x H' hlt p y⟩
  · have e : i = n := by omega
    subst e
    exact .inl ⟨hst σ H p, hd σ H p⟩
/-- a list or a tuple that stands -/
def Seqs (K : PySem.W.Frag) (H : Hp) (a : Addr) (xs : List V) : Prop := SqL K H a xs ∨ SqT K H a xs
theorem seq_go {K : PySem.W.Frag} {H0 H : Hp} {a : Addr} {xs : List V} {R : It → Hp → Prop} (h : Seqs K H0 a xs) (hs : Same H0 H)
    (k : ∀ (J : It), (∀ H i, Same H0 H → i < xs.length → J.go i H) → (∀ H, Same H0 H → J.stop xs.length H) → (∀ H i x H', Same H0 H → J.yld i H x H' → H' = H ∧ xs[i]? = some x) → R J H) :
    (((∃ xs, SqL K H a xs) ∧ R (Itl K a) H) ∨ ((∃ xs, SqT K H a xs) ∧ R (Itt K a) H)) := by
  rcases h with h | h
  · have m : ∀ {H}, Same H0 H → SqL K H a xs := fun s => s.seq h
    exact .inl ⟨⟨xs, m hs⟩, k _ (fun H i s hi => ⟨xs, xs[i], m s, List.getElem?_eq_getElem hi⟩) (fun H s => ⟨xs, m s, Nat.le_refl _⟩) fun H i x H' s y => ⟨y.1, y.2 xs (m s)⟩⟩
  · have m : ∀ {H}, Same H0 H → SqT K H a xs := fun s => SqT.ext h s
    exact .inr ⟨⟨xs, m hs⟩, k _ (fun H i s hi => ⟨xs, xs[i], m s, List.getElem?_eq_getElem hi⟩) (fun H s => ⟨xs, m s, Nat.le_refl _⟩) fun H i x H' s y => ⟨y.1, y.2 xs (m s)⟩⟩
theorem iSeq_var {K : PySem.W.Frag} {σ : L2.St} {i : Nat} {H0 H : Hp} {a : Addr} {xs : List V} {R : It → Hp → Prop} (hσ : σ[i]? = some (some (.ref a))) (h : Seqs K H0 a xs) (hs : Same H0 H)
    (k : ∀ (J : It), (∀ H i, Same H0 H → i < xs.length → J.go i H) → (∀ H, Same H0 H → J.stop xs.length H) → (∀ H i x H', Same H0 H → J.yld i H x H' → H' = H ∧ xs[i]? = some x) → R J H) : iSeq K (tVar i) σ H R :=
  ⟨.ref a, hσ, a, rfl, seq_go h hs k⟩
end S1

namespace S1
open PySem PySem.Spec PyProof.Rows L2 StX M1
/-! ### rows of pairs in the heap -/
def PairV (H : Hp) (x : V) (p : P2) : Prop := ∃ t, x = .ref t ∧ H t = some (.tup [.int p.1, .int p.2])
abbrev PairsV (H : Hp) : List V → List P2 → Prop := Paired (PairV H)
def TupP (H : Hp) (a : Addr) (ps : List P2) : Prop := ∃ xs, H a = some (.tup xs) ∧ PairsV H xs ps
def LstP (H : Hp) (a : Addr) (ps : List P2) : Prop := ∃ xs, H a = some (.lst xs) ∧ PairsV H xs ps
theorem Paired.imp2 {α β : Type} {F G : α → β → Prop} (h : ∀ a b, F a b → G a b) : ∀ {l1 : List α} {l2 : List β}, Paired F l1 l2 → Paired G l1 l2
  | _, _, .nil => .nil
  | _, _, .cons r t => .cons (h _ _ r) (Paired.imp2 h t)
/-- tuples stay -/
def TupsStay (H H' : Hp) : Prop := ∀ b xs, H b = some (.tup xs) → H' b = some (.tup xs)
theorem Same.tups {H H' : Hp} (s : Same H H') : TupsStay H H' := fun b xs h => s b _ h
theorem PairsV.stay {H H' : Hp} (s : TupsStay H H') {xs : List V} {ps : List P2} (h : PairsV H xs ps) : PairsV H' xs ps := Paired.imp2 (fun x p ⟨t, e, q⟩ => ⟨t, e, s _ _ q⟩) h
theorem PairsV.len {H : Hp} {xs : List V} {ps : List P2} (h : PairsV H xs ps) : xs.length = ps.length := Paired.length h
theorem PairsV.get {H : Hp} : ∀ {xs : List V} {ps : List P2} {i : Nat} {x : V}, PairsV H xs ps → xs[i]? = some x → ∃ p, ps[i]? = some p ∧ PairV H x p
  | _, _, _, _, .nil, e => by simp at e
  | _, _, 0, _, .cons r _, e => by simp at e; subst e; exact ⟨_, rfl, r⟩
  | _, _, i + 1, x, .cons _ t, e => by
    obtain ⟨u, h1, h2⟩ := PairsV.get (i := i) (x := x) t (by simpa using e)
    exact ⟨u, by simpa using h1, h2⟩
theorem PairsV.app {H : Hp} : ∀ {xs ys : List V} {ps qs : List P2}, PairsV H xs ps → PairsV H ys qs → PairsV H (xs ++ ys) (ps ++ qs)
  | _, _, _, _, .nil, s => s
  | _, _, _, _, .cons r t, s => .cons r (PairsV.app t s)
theorem PairsV.one {H : Hp} {t : Addr} {p : P2} (h : H t = some (.tup [.int p.1, .int p.2])) : PairsV H [.ref t] [p] := .cons ⟨t, rfl, h⟩ .nil
theorem PairsV.mem {H : Hp} : ∀ {xs : List V} {ps : List P2}, PairsV H xs ps → ∀ x ∈ xs, ∃ p ∈ ps, PairV H x p
  | _, _, .nil, x, h => nomatch h
  | _, _, .cons r t, x, h => by
    rcases List.mem_cons.mp h with e | e
    · rw [e]; exact ⟨_, List.mem_cons_self, r⟩
    · obtain ⟨p, m, q⟩ := PairsV.mem t x e
      exact ⟨p, List.mem_cons_of_mem _ m, q⟩
theorem TupsStay.upd {H : Hp} {a : Addr} {o : HO} (h : ∀ xs, H a ≠ some (.tup xs)) : TupsStay H (upd H a o) := fun b xs e => by
  rw [upd_ne (fun z => by subst z; exact h xs e)]
  exact e
theorem TupsStay.trans {H H1 H2 : Hp} (a : TupsStay H H1) (b : TupsStay H1 H2) : TupsStay H H2 := fun c xs e => b c xs (a c xs e)
theorem Same.new {H : Hp} {p : Addr} {o : HO} (h : H p = none) : Same H (upd H p o) := fun a u e => by rw [upd_ne (ne_of_none e h)]; exact e
theorem Same.mut {H H' : Hp} {p : Addr} {o : HO} (s : Same H H') (h : H p = none) : Same H (upd H' p o) := fun a u e => by rw [upd_ne (ne_of_none e h)]; exact s _ _ e
theorem Seqs.same {K : PySem.W.Frag} {H H' : Hp} {a : Addr} {xs : List V} (s : Same H H') (h : Seqs K H a xs) : Seqs K H' a xs := by
  rcases h with h | h
  · exact .inl (s.seq h)
  · exact .inr (SqT.ext h s)
theorem TupP.same {H H' : Hp} {a : Addr} {ps : List P2} (s : Same H H') (h : TupP H a ps) : TupP H' a ps := let ⟨xs, e, q⟩ := h; ⟨xs, s _ _ e, q.stay (Same.tups s)⟩
theorem LstP.same {H H' : Hp} {a : Addr} {ps : List P2} (s : Same H H') (h : LstP H a ps) : LstP H' a ps := let ⟨xs, e, q⟩ := h; ⟨xs, s _ _ e, q.stay (Same.tups s)⟩
/-- an instance of Spans -/
def spF (a : Addr) (n : Int) : List (Str × V) := [("pairs", .ref a), ("many_positions", .int n)]
def SpAt (C : Addr) (H : Hp) (p : Addr) (ps : List P2) : Prop := (∃ dx a, H p = some (.ins C dx (spF a (total ps))) ∧ TupP H a ps) ∧ Canon ps ∧ Oks ps
theorem SpAt.same {C : Addr} {H H' : Hp} {p : Addr} {ps : List P2} (s : Same H H') (h : SpAt C H p ps) : SpAt C H' p ps := let ⟨⟨dx, a, e, q⟩, r⟩ := h; ⟨⟨dx, a, s _ _ e, TupP.same s q⟩, r⟩
theorem pm_ : ¬ (("pairs" : Str) = "many_positions") := by decide +kernel
theorem spF_pairs (a : Addr) (n : Int) : (spF a n).lookup ("pairs" : Str) = some (.ref a) := by
  unfold spF
  rw [List.lookup_cons, beq_self_eq_true]
theorem spF_many (a : Addr) (n : Int) : (spF a n).lookup ("many_positions" : Str) = some (.int n) := by
  unfold spF
  rw [List.lookup_cons, show (("many_positions" : Str) == "pairs") = false by decide +kernel]
  dsimp only
  rw [List.lookup_cons, beq_self_eq_true]
theorem spF_put1 (a : Addr) : putF "pairs" (.ref a) [] = [(("pairs" : Str), V.ref a)] := rfl
theorem spF_put2 (a : Addr) (n : Int) : putF "many_positions" (.int n) [(("pairs" : Str), V.ref a)] = spF a n := by
  show (if ("pairs" : Str) = "many_positions" then _ else (("pairs" : Str), V.ref a) :: putF "many_positions" (.int n) []) = _
  rw [if_neg pm_]
  rfl

/-- the pair at a value -/
def keyOf (H : Hp) : V → P2
  | .ref t => match H t with
    | some (.tup [.int i, .int j]) => (i, j)
    | _ => (0, 0)
  | _ => (0, 0)
theorem keyOf_at {H : Hp} {x : V} {p : P2} (h : PairV H x p) : keyOf H x = p := by
  obtain ⟨t, rfl, e⟩ := h
  simp only [keyOf, e]
theorem PairsV.keys {H : Hp} : ∀ {xs : List V} {ps : List P2}, PairsV H xs ps → xs.map (keyOf H) = ps
  | _, _, .nil => rfl
  | _, _, .cons r t => by rw [List.map_cons, keyOf_at r, PairsV.keys t]
theorem PairsV.ofMem {H : Hp} : ∀ {ys : List V}, (∀ y ∈ ys, ∃ p, PairV H y p) → PairsV H ys (ys.map (keyOf H))
  | [], _ => .nil
  | y :: r, h => by
    obtain ⟨p, q⟩ := h y List.mem_cons_self
    refine .cons ?_ (PairsV.ofMem fun z m => h z (List.mem_cons_of_mem _ m))
    rw [keyOf_at q]
    exact q
theorem PairsV.perm {H : Hp} {xs ys : List V} {ps : List P2} (h : PairsV H xs ps) (q : ys.Perm xs) : PairsV H ys (ys.map (keyOf H)) ∧ (ys.map (keyOf H)).Perm ps := by
  refine ⟨PairsV.ofMem fun y m => ?_, ?_⟩
  · obtain ⟨p, _, r⟩ := h.mem y (q.mem_iff.mp m)
    exact ⟨p, r⟩
  · have := q.map (keyOf H)
    rw [h.keys] at this
    exact this
theorem PairsV.asks {H : Hp} {xs : List V} {ps : List P2} (h : PairsV H xs ps) : ∀ x ∈ xs, ∃ t, x = V.ref t ∧ H t = some (.tup [.int (keyOf H x).1, .int (keyOf H x).2]) := fun x m => by
  obtain ⟨p, _, r⟩ := h.mem x m
  rw [keyOf_at r]
  exact r
theorem srtd_fst {H : Hp} {ys : List V} (s : SrtO.Srtd (ltP (keyOf H)) ys) : (ys.map (keyOf H)).Pairwise (fun p q => p.1 ≤ q.1) := by
  refine List.pairwise_map.mpr (s.imp fun {x y} h => ?_)
  have := SrtO.lexB_no.mp h
  omega
theorem fold_take {α β : Type} {f : β → α → β} {s : β} {l : List α} {i : Nat} {p : α} (h : l[i]? = some p) : (l.take (i + 1)).foldl f s = f ((l.take i).foldl f s) p := by
  rw [List.take_add_one, h, List.foldl_append]
  rfl
/-- what a walk of xs gives, as long as what stood at H0 stands -/
structure Walks (J : It) (H0 : Hp) (xs : List V) : Prop where
  go : ∀ (H : Hp) (i : Nat), Same H0 H → i < xs.length → J.go i H
  stop : ∀ (H : Hp), Same H0 H → J.stop xs.length H
  yld : ∀ (H : Hp) (i : Nat) (x : V) (H' : Hp), Same H0 H → J.yld i H x H' → H' = H ∧ xs[i]? = some x
theorem Walks.tup {K : PySem.W.Frag} {H0 : Hp} {a : Addr} {xs : List V} (h : SqT K H0 a xs) : Walks (Itt K a) H0 xs :=
  ⟨fun H i s hi => ⟨xs, xs[i], SqT.ext h s, List.getElem?_eq_getElem hi⟩, fun H s => ⟨xs, SqT.ext h s, Nat.le_refl _⟩, fun H i x H' s y => ⟨y.1, y.2 xs (SqT.ext h s)⟩⟩
theorem Walks.lst {K : PySem.W.Frag} {H0 : Hp} {a : Addr} {xs : List V} (h : SqL K H0 a xs) : Walks (Itl K a) H0 xs :=
  ⟨fun H i s hi => ⟨xs, xs[i], s.seq h, List.getElem?_eq_getElem hi⟩, fun H s => ⟨xs, s.seq h, Nat.le_refl _⟩, fun H i x H' s y => ⟨y.1, y.2 xs (s.seq h)⟩⟩
/-- [f(p) for p in pairs], f of the pair's numbers alone -/
theorem lc_pairs {J : It} {H0 H : Hp} {D : Addr} {xs : List V} {ps : List P2} {v : P2 → V} {B : V → Hp → (Hp → Prop) → Prop} {Qd : Hp → Prop} (wk : Walks J H0 xs) (hp : PairsV H0 xs ps) (s : Same H0 H) (nD : H D = none) (hz : xs.length ≤ sizeLine)
    (hB : ∀ (H' : Hp) (t : Addr) (p : P2) (Nx : Hp → Prop), p ∈ ps → H' t = some (.tup [.int p.1, .int p.2]) → (∃ acc, H' D = some (.lst acc) ∧ acc.length < sizeLine ∧ Nx (upd H' D (.lst (acc ++ [v p])))) → B (.ref t) H' Nx)
    (hd : ∀ H', Same H0 H' → Same H H' → H' D = some (.lst (ps.map v)) → Qd H') :
    ∃ W : Nat → Nat → Hp → Prop, (∃ m, W 0 m (upd H D (.lst []))) ∧ ∀ i m H, W i m H →
      (J.stop i H ∧ Qd H) ∨ (J.go i H ∧ ∃ Nx : Hp → Prop, (∀ H', Nx H' → ∃ m', m' < m ∧ W (i + 1) m' H') ∧ ∀ x H', J.yld i H x H' → B x H' Nx) := by
  have l := PairsV.len hp
  refine lc_it (n := xs.length) (fun i H' => Same H0 H' ∧ Same H H' ∧ H' D = some (.lst ((ps.take i).map v))) ⟨Same.mut s (s.free nD), Same.new nD, upd_same⟩ (fun i H' hi q => wk.go _ _ q.1 hi) (fun H' q => wk.stop _ q.1) ?_ (fun H' q => hd _ q.1 q.2.1 (by have e := q.2.2; rw [l, List.take_length] at e; exact e))
  rintro i H' x H2 hi ⟨s1, s2, e⟩ y
  obtain ⟨rfl, hx⟩ := wk.yld _ _ _ _ s1 y
  obtain ⟨p, hp2, t, rfl, ht⟩ := PairsV.get (PairsV.stay (Same.tups s1) hp) hx
  refine hB _ _ _ _ (List.mem_of_getElem? hp2) ht ⟨_, e, ?_, Same.mut s1 (s.free nD), Same.mut s2 nD, ?_⟩
  · rw [List.length_map, List.length_take]
    omega
  · rw [upd_same, List.take_add_one, hp2, List.map_append]
    rfl
/-! ### the data that == looks at -/
def dP (p : P2) : PyData := .tuple [.int p.1, .int p.2]
def dT (ps : List P2) : PyData := .tuple (ps.map dP)
theorem dpAll_pairs {K : PySem.W.Frag} {H : Hp} : ∀ {xs : List V} {ps : List P2}, PairsV H xs ps → DpAll K H xs (ps.map dP)
  | _, _, .nil => .nil
  | _, _, .cons ⟨t, e, h⟩ r => by
    subst e
    exact .cons (.tup (SqT.of h) (.cons (.int _) (.cons (.int _) .nil))) (dpAll_pairs r)
theorem dp_tup {K : PySem.W.Frag} {H : Hp} {a : Addr} {ps : List P2} (h : TupP H a ps) : Dp K H (.ref a) (dT ps) := by
  obtain ⟨xs, e, q⟩ := h
  exact .tup (SqT.of e) (dpAll_pairs q)
theorem shapeAll : ∀ ps : List P2, PyData.canLayAll0 (ps.map dP) = true ∧ PyData.depthAll (ps.map dP) ≤ 1
  | [] => by
    refine ⟨by simp only [List.map_nil, PyData.canLayAll0], ?_⟩
    simp only [List.map_nil, PyData.depthAll]
    omega
  | p :: r => by
    obtain ⟨h1, h2⟩ := shapeAll r
    have e1 : PyData.canLay0 (dP p) = true := by simp only [dP, PyData.canLay0, PyData.canLayAll0, Bool.and_self]
    have e2 : PyData.depth (dP p) = 1 := by simp only [dP, PyData.depth, PyData.depthAll, Nat.max_self]
    refine ⟨?_, ?_⟩
    · rw [List.map_cons]
      simp only [PyData.canLayAll0, e1, h1, Bool.and_self]
    · rw [List.map_cons]
      simp only [PyData.depthAll, e2]
      omega
theorem canLay_dT (ps : List P2) : PyData.canLay0 (dT ps) = true := by
  simp only [dT, PyData.canLay0]
  exact (shapeAll ps).1
theorem depth_dT (ps : List P2) : PyData.depth (dT ps) ≤ 2 := by
  have := (shapeAll ps).2
  simp only [dT, PyData.depth]
  omega
theorem shaped_dT (ps : List P2) : SeqAt.shaped (dT ps) = true := by
  show (PyData.canLay0 (dT ps) && decide (PyData.depth (dT ps) ≤ 64)) = true
  have := depth_dT ps
  rw [canLay_dT, Bool.true_and]
  exact decide_eq_true (by omega)
theorem eqv_dP (p q : P2) : PyData.eqv (dP p) (dP q) = decide (p = q) := by
  obtain ⟨a, b⟩ := p
  obtain ⟨c, d⟩ := q
  simp only [dP, PyData.eqv, PyData.eqvAll, Bool.and_true]
  by_cases h1 : a = c
  · by_cases h2 : b = d
    · rw [h1, h2]
      simp
    · simp [h1, h2]
  · simp [h1]
theorem eqvAll_dP : ∀ ps qs : List P2, PyData.eqvAll (ps.map dP) (qs.map dP) = decide (ps = qs)
  | [], [] => by simp [PyData.eqvAll]
  | [], q :: r => by simp [PyData.eqvAll]
  | p :: r, [] => by simp [PyData.eqvAll]
  | p :: r, q :: l => by
    rw [List.map_cons, List.map_cons]
    simp only [PyData.eqvAll, eqv_dP, eqvAll_dP r l]
    by_cases h1 : p = q
    · by_cases h2 : r = l
      · simp [h1, h2]
      · simp [h1, h2]
    · simp [h1]
theorem eqv_dT (ps qs : List P2) : PyData.eqv (dT ps) (dT qs) = decide (ps = qs) := by
  simp only [dT, PyData.eqv]
  exact eqvAll_dP ps qs
theorem sharedF_len (ps qs : List P2) : (sharedF ps qs).length ≤ ps.length * qs.length := by
  unfold sharedF
  refine Nat.le_trans (List.length_filter_le _ _) ?_
  induction ps with
  | nil => simp
  | cons p r ih =>
    rw [List.flatMap_cons, List.length_append, List.length_map, List.length_cons, Nat.succ_mul]
    omega
theorem restF_len (ps : List P2) : (restF ps).length ≤ ps.length + 1 := by
  unfold restF
  refine Nat.le_trans (List.length_filter_le _ _) ?_
  rw [List.length_zip, List.length_cons, List.length_map]
  exact Nat.min_le_left _ _
/-! ### promises of the program's defs -/
def spInteger : Sp := fun vs H Q _ => ∃ i : Int, vs = [.int i] ∧ Q (.bl true) H
def spSpan : Sp := fun vs H Q _ => ∃ (x : V) (p : P2), vs = [x] ∧ PairV H x p ∧ Ok p ∧ Q (.bl true) H
def spUnited (K : PySem.W.Frag) : Sp := fun vs H Q _ => ∃ (a : Addr) (xs : List V) (ps : List P2), vs = [.ref a] ∧ Seqs K H a xs ∧ PairsV H xs ps ∧ Oks ps ∧ ps.length < sizeLine ∧
  ∀ (H' : Hp) (q : Addr) (u : List P2), Same H H' → TupP H' q u → Canon u → Oks u → (∀ x, covers u x ↔ covers ps x) → Q (.ref q) H'
def spShared (K : PySem.W.Frag) : Sp := fun vs H Q _ => ∃ (a b : Addr) (xs ys : List V) (ps qs : List P2), vs = [.ref a, .ref b] ∧ Seqs K H a xs ∧ Seqs K H b ys ∧ PairsV H xs ps ∧ PairsV H ys qs ∧ ps.length ≤ 1000 ∧ qs.length ≤ 1000 ∧
  ∀ (H' : Hp) (l : Addr), Same H H' → LstP H' l (sharedF ps qs) → Q (.ref l) H'
def spRest (K : PySem.W.Frag) : Sp := fun vs H Q _ => ∃ (a : Addr) (xs : List V) (ps : List P2), vs = [.ref a] ∧ SqT K H a xs ∧ PairsV H xs ps ∧ ps.length ≤ 1000 ∧
  ∀ (H' : Hp) (l : Addr), Same H H' → LstP H' l (restF ps) → Q (.ref l) H'
/-- __init__: what stood but the instance is kept -/
def spInit (C : Addr) : Sp := fun vs H Q _ => ∃ (p dx a : Addr) (xs : List V) (ps : List P2), vs = [.ref p, .ref a] ∧ H p = some (.ins C dx []) ∧ H a = some (.tup xs) ∧ PairsV H xs ps ∧ Oks ps ∧ ps.length < sizeLine ∧
  ∀ (H' : Hp) (u : List P2), (∀ b o, b ≠ p → H b = some o → H' b = some o) → SpAt C H' p u → (∀ x, covers u x ↔ covers ps x) → Q .non H'
def spAnd (C : Addr) : Sp := fun vs H Q _ => ∃ (a b : Addr) (ps qs : List P2), vs = [.ref a, .ref b] ∧ SpAt C H a ps ∧ SpAt C H b qs ∧ ps.length ≤ 1000 ∧ qs.length ≤ 1000 ∧
  ∀ (H' : Hp) (r : Addr) (u : List P2), Same H H' → SpAt C H' r u → (∀ x, covers u x ↔ covers ps x ∧ covers qs x) → Q (.ref r) H'
def spOr (C : Addr) : Sp := fun vs H Q _ => ∃ (a b : Addr) (ps qs : List P2), vs = [.ref a, .ref b] ∧ SpAt C H a ps ∧ SpAt C H b qs ∧ ps.length ≤ 1000 ∧ qs.length ≤ 1000 ∧
  ∀ (H' : Hp) (r : Addr) (u : List P2), Same H H' → SpAt C H' r u → (∀ x, covers u x ↔ covers ps x ∨ covers qs x) → Q (.ref r) H'
def spSub (C : Addr) : Sp := fun vs H Q _ => ∃ (a b : Addr) (ps qs : List P2), vs = [.ref a, .ref b] ∧ SpAt C H a ps ∧ SpAt C H b qs ∧ ps.length ≤ 1000 ∧ qs.length ≤ 999 ∧
  ∀ (H' : Hp) (r : Addr) (u : List P2), Same H H' → SpAt C H' r u → (∀ x, covers u x ↔ covers ps x ∧ ¬ covers qs x) → Q (.ref r) H'
def spLen (C : Addr) : Sp := fun vs H Q _ => ∃ (a : Addr) (ps : List P2), vs = [.ref a] ∧ SpAt C H a ps ∧ ∀ H', Same H H' → Q (.int (total ps)) H'
/-- y beside a Spans: another one, or something else -/
def EqTo (K : PySem.W.Frag) (C : Addr) (H : Hp) (ps : List P2) (y : V) (r : Bool) : Prop :=
  (∃ b qs, y = .ref b ∧ SpAt C H b qs ∧ r = decide (ps = qs)) ∨ (r = false ∧ ((∃ b xs, y = .ref b ∧ H b = some (.tup xs)) ∨ ∃ i, y = .int i))
def spEqS (K : PySem.W.Frag) (C : Addr) : Sp := fun vs H Q _ => ∃ (a : Addr) (y : V) (ps : List P2) (r : Bool), vs = [.ref a, y] ∧ SpAt C H a ps ∧ EqTo K C H ps y r ∧ Q (.bl r) H

/-! ### the class, as it may be made -/
structure SpB (P : Program) (w : World) (K : PySem.W.Frag) (mg : Str → Option Value) (base : Heap) (C fI : Addr) : Prop where
  m : Mk K C fI
  f : FnR P w K mg base CX0 3 fI (fun vs H Q E => ∃ ws rest, vs = ws ++ rest ∧ ws.length = ["self"].length ∧ rest.length ≤ sizeLine ∧ ∀ p, H p = Option.none → spInit C (ws ++ [V.ref p]) (upd H p (.tup rest)) Q E)
  g : mg "Spans" = some (.ref C)
section
variable {X : Cx} {C fI : Addr} {m : Nat} {p sp_ pos : Pos} {e e2 : Expr} {es : List Expr} {te : TE} {t : TA}
abbrev spMade (C : Addr) : Sp := fun vs H Q E => ∃ ws rest, vs = ws ++ rest ∧ ws.length = ["self"].length ∧ rest.length ≤ sizeLine ∧ ∀ p, H p = Option.none → spInit C (ws ++ [V.ref p]) (upd H p (.tup rest)) Q E
theorem pe_sp0 (S : SpB X.prog X.w X.K X.mg X.base C fI) (hr : Room m X.A) (hg : Gl X "Spans") (hk : 4 ≤ m := by decide) : PE X (.Call (.Name "Spans" p) [] [] pos) (tMakeR C (spMade C) E0 tNil) :=
  pe_makeR0 S.m S.f (hr.mono hk) hg S.g pass0
theorem pe_sp (S : SpB X.prog X.w X.K X.mg X.base C fI) (hr : Room m X.A) (hg : Gl X "Spans") (ha : PA X (e :: es) t) (hk : 4 ≤ m := by decide)
    (he : starEach (e :: es) X.env = (false, eval e X.env) :: starEach es X.env := by rfl) (hpl : (backTo pos (starEach es X.env)).any (·.1) = false := by rfl) : PE X (.Call (.Name "Spans" p) (e :: es) [] pos) (tMakeR C (spMade C) E0 t) :=
  pe_makeR S.m S.f (hr.mono hk) hg S.g pass0 ha (by decide) he hpl
theorem pe_spS1 (S : SpB X.prog X.w X.K X.mg X.base C fI) (hr : Room m X.A) (hg : Gl X "Spans") (he : PE X e te) (hk : 4 ≤ m := by decide)
    (hst : starEach [.Starred e sp_] X.env = [(true, eval e X.env)] := by rfl) : PE X (.Call (.Name "Spans" p) [.Starred e sp_] [] pos) (tMakeR C (spMade C) E0 (tStar X.K te tNil)) :=
  pe_makeS1 S.m S.f (hr.mono hk) hg S.g pass0 he (by decide) hst
theorem pe_spS2 (S : SpB X.prog X.w X.K X.mg X.base C fI) (hr : Room m X.A) (hg : Gl X "Spans") (ha : PA X (.Starred e sp_ :: e2 :: es) t) (hk : 4 ≤ m := by decide)
    (hst : ∃ b y rest, backTo pos (starEach (.Starred e sp_ :: e2 :: es) X.env) = (true, b) :: y :: rest := by exact ⟨_, _, _, rfl⟩) : PE X (.Call (.Name "Spans" p) (.Starred e sp_ :: e2 :: es) [] pos) (tMakeR C (spMade C) E0 t) :=
  pe_makeS2 S.m S.f (hr.mono hk) hg S.g pass0 ha (by decide) hst
end
/-- what a call of the class asks, and gives -/
theorem made_sp {C : Addr} {H : Hp} {vs : List V} {ps : List P2} {Q : Addr → Hp → Prop} {E : XK} (hv : PairsV H vs ps) (o : Oks ps) (hl : ps.length < sizeLine)
    (k : ∀ (H' : Hp) (x : Addr) (u : List P2), Same H H' → SpAt C H' x u → (∀ y, covers u y ↔ covers ps y) → Q x H') :
    ∀ x dx, H x = Option.none → H dx = Option.none → dx ≠ x → spMade C (V.ref x :: vs) (upd (upd H dx (.own x)) x (.ins C dx [])) (fun v H2 => v = .non ∧ Q x H2) E := by
  intro x dx nx ndx nex
  refine ⟨[.ref x], vs, rfl, rfl, Nat.le_of_lt (by rw [PairsV.len hv]; exact hl), fun p np => ?_⟩
  have npx : p ≠ x := fun z => by rw [z, upd_same] at np; cases np
  have np1 : (upd H dx (.own x)) p = none := by rw [upd_ne npx] at np; exact np
  have npd : p ≠ dx := fun z => by rw [z, upd_same] at np1; cases np1
  have np0 : H p = none := by rw [upd_ne npd] at np1; exact np1
  have s1 : Same H (upd (upd (upd H dx (.own x)) x (.ins C dx [])) p (.tup vs)) := Same.mut (Same.mut (Same.new ndx) nx) np0
  refine ⟨x, dx, p, vs, ps, rfl, by rw [upd_ne npx.symm]; exact upd_same, upd_same, PairsV.stay (Same.tups s1) hv, o, hl, fun H' u kp sp cv => ⟨rfl, k H' x u (fun b ob e => ?_) sp cv⟩⟩
  have nbx : b ≠ x := fun z => by rw [z, nx] at e; cases e
  exact kp b ob nbx (s1 b ob e)
end S1

namespace S1
open PySem PySem.Spec PyProof.Rows L2 StX M1
/-- what the top has written -/
structure Txt (K : PySem.W.Frag) (mg : Str → Option Value) (C : Addr) : Prop where
  n_int : mg "int" = none
  n_bool : mg "bool" = none
  n_tuple : mg "tuple" = none
  n_list : mg "list" = none
  n_dict : mg "dict" = none
  n_len : mg "len" = none
  n_max : mg "max" = none
  n_min : mg "min" = none
  n_sum : mg "sum" = none
  n_all : mg "all" = none
  n_abs : mg "abs" = none
  n_sorted : mg "sorted" = none
  n_range : mg "range" = none
  n_zip : mg "zip" = none
  n_isinstance : mg "isinstance" = none
  g_PAIR : ∃ t, mg "PAIR" = some (.int 2 t)
  g_MOST : ∃ t, mg "MOST" = some (.int 1000000 t)
  c_Spans : mg "Spans" = some (.ref C)
  cl : Cls K C
  nP : NoAttr K C "pairs"
  nM : NoAttr K C "many_positions"
  ha : PySem.W.findIn K (.ref C) "__class__" = some (some (.builtin "object.__class__"))
  hn : PySem.W.specialIn K (.builtin "object.__class__") "__get__" = some (some (.builtin "getset_descriptor.__get__"))
  htk : PySem.W.takesIn K (.builtin "object.__class__") = some true
  hm : PySem.W.mroIn K C (.type "object") = some true
  kS : PySem.W.kitOne K (.ref C) (.ref C) = some true
  kT : PySem.W.kitOne K (.type "tuple") (.ref C) = some false
  kI : PySem.W.kitOne K (.type "int") (.ref C) = some false
  k1 : PySem.W.kitOne K (.type "int") (.type "int") = some true
  k2 : PySem.W.kitOne K (.type "int") (.type "bool") = some false
  k3 : PySem.W.kitOne K (.type "tuple") (.type "tuple") = some true
  fS : PySem.W.notFirst K C (.ref C) = true
  fT : PySem.W.notFirst K C (.type "tuple") = true
  fI : PySem.W.notFirst K C (.type "int") = true
/-- a method of a class -/
def MethOk (P : Program) (w : World) (K : PySem.W.Frag) (mg : Str → Option Value) (base : Heap) (C : Addr) (k : Nat) (m : Str) (ps : List Str) (sp : Sp) : Prop :=
  ∃ f fd, FnOk P w K mg base CX0 k f fd ps sp ∧ Binds K fd ps [] ∧ PySem.W.findIn K (.ref C) m = some (some (.ref f)) ∧ PySem.W.isFn K (.ref f) = true
structure SpC (P : Program) (w : World) (K : PySem.W.Frag) (mg : Str → Option Value) (base : Heap) (C fI : Addr) : Prop extends SpB P w K mg base C fI where
  self1 : PySem.W.selfFirst K C = true
  and_ : MethOk P w K mg base C 5 "__and__" ["self", "other"] (spAnd C)
  or_ : MethOk P w K mg base C 5 "__or__" ["self", "other"] (spOr C)
  sub_ : MethOk P w K mg base C 5 "__sub__" ["self", "other"] (spSub C)
  len_ : MethOk P w K mg base C 1 "__len__" ["self"] (spLen C)
  eq_ : MethOk P w K mg base C 1 "__eq__" ["self", "other"] (spEqS K C)
section
variable {X : Cx} {C fI : Addr} {m : Nat}
theorem SpC.oAnd (S : SpC X.prog X.w X.K X.mg X.base C fI) (hr : Room m X.A) (h : 5 ≤ m := by decide) : OpR X (binaryOp .BitAnd) (rOwn C (spAnd C) E0) := by
  obtain ⟨f, fd, F, b, hs, hf⟩ := S.and_
  exact op_own F (hr.mono h) b pass0 S.self1 (by exact hs) hf
theorem SpC.oOr (S : SpC X.prog X.w X.K X.mg X.base C fI) (hr : Room m X.A) (h : 5 ≤ m := by decide) : OpR X (binaryOp .BitOr) (rOwn C (spOr C) E0) := by
  obtain ⟨f, fd, F, b, hs, hf⟩ := S.or_
  exact op_own F (hr.mono h) b pass0 S.self1 (by exact hs) hf
theorem SpC.oSub (S : SpC X.prog X.w X.K X.mg X.base C fI) (hr : Room m X.A) (h : 5 ≤ m := by decide) : OpR X (binaryOp .Sub) (rOwn C (spSub C) E0) := by
  obtain ⟨f, fd, F, b, hs, hf⟩ := S.sub_
  exact op_own F (hr.mono h) b pass0 S.self1 (by exact hs) hf
theorem SpC.oEq (S : SpC X.prog X.w X.K X.mg X.base C fI) (hr : Room m X.A) (h : 1 ≤ m := by decide) : OpR X (compareOp .Eq) (rOwnEq X.K C (spEqS X.K C) E0) := by
  obtain ⟨f, fd, F, b, hs, hf⟩ := S.eq_
  exact op_ownEq F (hr.mono h) b pass0 hs hf
theorem SpC.oLen (S : SpC X.prog X.w X.K X.mg X.base C fI) (hr : Room m X.A) (h : 2 ≤ m := by decide) : CallR X (.builtin "len") (rOwnLen C (spLen C) E0) := by
  obtain ⟨f, fd, F, b, hs, hf⟩ := S.len_
  exact call_ownLen F (hr.mono h) b (fun _ _ _ _ _ _ _ z => z) hs hf
end
end S1

namespace S1
open PySem PySem.Spec PyProof.Rows L2 StX M1
/-! ### the pot of the law -/
def PotAt (H : Hp) (a : Addr) (B : Int) : Prop := ∃ x y z : Int, H a = some (.lst [.int x, .int y, .int z]) ∧ 0 ≤ y ∧ y < 2305843009213693921 ∧ 0 ≤ z ∧ z ≤ B
theorem PotAt.mono {H : Hp} {a : Addr} {B C : Int} (h : PotAt H a B) (q : B ≤ C) : PotAt H a C := by
  obtain ⟨x, y, z, e, a1, a2, a3, a4⟩ := h
  exact ⟨x, y, z, e, a1, a2, a3, by omega⟩
theorem PotAt.same {H H' : Hp} {a : Addr} {B : Int} (h : PotAt H a B) (s : Same H H') : PotAt H' a B := by
  obtain ⟨x, y, z, e, r⟩ := h
  exact ⟨x, y, z, s _ _ e, r⟩
/-- all but one object are kept -/
def But (p : Addr) (H H' : Hp) : Prop := ∀ b o, b ≠ p → H b = some o → H' b = some o
theorem But.refl (p : Addr) (H : Hp) : But p H H := fun _ _ _ h => h
theorem But.trans {p : Addr} {H H1 H2 : Hp} (a : But p H H1) (b : But p H1 H2) : But p H H2 := fun c o n h => b c o n (a c o n h)
theorem Same.but {H H' : Hp} (s : Same H H') (p : Addr) : But p H H' := fun b o _ h => s b o h
theorem But.put (p : Addr) (H : Hp) (u : HO) : But p H (upd H p u) := fun b o n h => by rw [upd_ne n]; exact h
theorem But.tups {p : Addr} {H H' : Hp} (b : But p H H') {xs : List V} (hp : H p = some (.lst xs)) : TupsStay H H' := fun c ys h => b c _ (fun z => by rw [z, hp] at h; cases h) h
theorem SqL.but {K : PySem.W.Frag} {H H' : Hp} {p a : Addr} {xs : List V} (s : But p H H') (n : a ≠ p) (h : H a = some (.lst xs)) : H' a = some (.lst xs) := s _ _ n h
def spPot (K : PySem.W.Frag) : Sp := fun vs H Q _ => ∃ (a : Addr) (ns : List Int) (k : Int), vs = [.ref a, .int k] ∧ SqL K H a (ns.map V.int) ∧ 0 ≤ k ∧ k ≤ 1000 ∧ ∀ (H' : Hp) (l : Addr), H l = none → Same H H' → PotAt H' l 0 → Q (.ref l) H'
def spDraw : Sp := fun vs H Q _ => ∃ (p : Addr) (n B : Int), vs = [.ref p, .int n] ∧ PotAt H p B ∧ 1 ≤ n ∧ n < 1073741824 ∧ B ≤ 100000 ∧ ∀ (H' : Hp) (d : Int), But p H H' → PotAt H' p (B + 1) → 0 ≤ d → d < n → Q (.int d) H'
def spAny : Sp := fun vs H Q _ => ∃ (p l : Addr) (xs : List V) (B : Int), vs = [.ref p, .ref l] ∧ PotAt H p B ∧ H l = some (.lst xs) ∧ l ≠ p ∧ 1 ≤ xs.length ∧ xs.length < 1073741824 ∧ B ≤ 100000 ∧ ∀ (H' : Hp) (x : V), But p H H' → PotAt H' p (B + 1) → x ∈ xs → Q x H'
theorem fmod_in {i n : Int} (h : 1 ≤ n) : 0 ≤ i.fmod n ∧ i.fmod n < n := ⟨Int.fmod_nonneg_of_pos i (by omega), Int.fmod_lt_of_pos i (by omega)⟩
theorem atI_nat {α : Type} {xs : List α} {i : Int} (h0 : 0 ≤ i) (h1 : i < xs.length) : ∃ x, atI xs i = some x ∧ x ∈ xs := by
  have h2 : i.toNat < xs.length := by omega
  refine ⟨xs[i.toNat], ?_, List.getElem_mem h2⟩
  unfold atI ixN
  rw [if_pos h0, if_pos h1]
  show xs[i.toNat]? = _
  exact List.getElem?_eq_getElem h2
theorem tIf_any {t : TT} {ta tb : TE} {σ : L2.St} {H : Hp} {Q : VK} (P : V → Prop) (h : ∀ R : VK, (∀ v, P v → R v H) → tIf t ta tb σ H R) (k : ∀ v, P v → Q v H) : tIf t ta tb σ H Q := h Q k
theorem mod_ok {i j : Int} (h : 1 ≤ j) : (fun _ j : Int => j ≠ 0) i j := by
  show j ≠ 0
  omega
theorem big_ne : ((10 : Int) ^ (Int.toNat 60)) ^ (Int.toNat 5) ≠ 0 := by decide +kernel
theorem bit_in (b : Bool) : -(2 ^ 64) < (if b then (1 : Int) else 0) ∧ (if b then (1 : Int) else 0) < 2 ^ 64 := by cases b <;> decide
theorem prime_at {i : Int} (h0 : 0 ≤ i) (h1 : i < 5) : ∃ r : Int, atI [V.int 2147483647, V.int 2147483629, V.int 2147483587, V.int 2147483579, V.int 2147483563] i = some (.int r) ∧ 1 ≤ r ∧ r ≤ 2147483647 := by
  obtain ⟨x, e, m⟩ := atI_nat (xs := [V.int 2147483647, V.int 2147483629, V.int 2147483587, V.int 2147483579, V.int 2147483563]) h0 h1
  rcases List.mem_cons.mp m with rfl | m
  · exact ⟨_, e, by decide, by decide⟩
  rcases List.mem_cons.mp m with rfl | m
  · exact ⟨_, e, by decide, by decide⟩
  rcases List.mem_cons.mp m with rfl | m
  · exact ⟨_, e, by decide, by decide⟩
  rcases List.mem_cons.mp m with rfl | m
  · exact ⟨_, e, by decide, by decide⟩
  rcases List.mem_cons.mp m with rfl | m
  · exact ⟨_, e, by decide, by decide⟩
  cases m
theorem sq_in {z : Int} (h0 : 0 ≤ z) (h1 : z ≤ 100001) : 0 ≤ 99991 * z * z ∧ 99991 * z * z ≤ 99991 * 100001 * 100001 := by
  have a1 : 0 ≤ 99991 * z := by omega
  have a2 : 99991 * z ≤ 99991 * 100001 := by omega
  refine ⟨Int.mul_nonneg a1 h0, ?_⟩
  exact Int.le_trans (Int.mul_le_mul_of_nonneg_right a2 h0) (Int.mul_le_mul_of_nonneg_left h1 (by decide))
theorem pow_bits {y z : Int} (y0 : 0 ≤ y) (y1 : y < 2305843009213693921) (h0 : 0 ≤ z) (h1 : z ≤ 100001) : (Builtin.Int.intBits (y + 99991 * z * z + 61) : Int) * 3 ≤ 2 ^ 27 := by
  have q := sq_in h0 h1
  have e : (99991 * 100001 * 100001 : Int) = 999929998299991 := by decide
  have b : Builtin.Int.intBits (y + 99991 * z * z + 61) ≤ 64 := intBits_le_64 (by omega) (by omega)
  have c : (2 : Int) ^ 27 = 134217728 := by decide
  omega
end S1

namespace S1
open PySem PySem.Spec PyProof.Rows L2 StX M1
/-! ### dicts of ints to True -/
def addK (ks : List Int) (k : Int) : List Int := if k ∈ ks then ks else ks ++ [k]
def addAll (ks ls : List Int) : List Int := ls.foldl addK ks
theorem putK_set (ks : List Int) (k : Int) : putK (setK ks) (Sum.inl k : Key) (V.bl true) = setK (addK ks k) := by
  unfold addK
  by_cases h : k ∈ ks
  · rw [if_pos h]
    unfold putK
    have h1 : ((setK ks).any fun kv => decide (kv.1 = (Sum.inl k : Key))) = true := by
      refine List.any_eq_true.mpr ⟨(Sum.inl k, V.bl true), ?_, decide_eq_true rfl⟩
      exact List.mem_map.mpr ⟨k, h, rfl⟩
    rw [if_pos h1]
    unfold setK
    rw [List.map_map]
    refine List.map_congr_left fun x _ => ?_
    show (if (Sum.inl x : Key) = Sum.inl k then ((Sum.inl x : Key), V.bl true) else (Sum.inl x, V.bl true)) = _
    by_cases e : (Sum.inl x : Key) = Sum.inl k
    · rw [if_pos e]
    · rw [if_neg e]
  · rw [if_neg h]
    have h1 : valV (setK ks) (Sum.inl k : Key) = none := by rw [setK_val, if_neg h]
    rw [putK_new _ h1]
    unfold setK
    rw [List.map_append]
    rfl
theorem addK_mem {ks : List Int} {k x : Int} : x ∈ addK ks k ↔ x ∈ ks ∨ x = k := by
  unfold addK
  by_cases h : k ∈ ks
  · rw [if_pos h]
    exact ⟨.inl, fun z => z.elim id fun e => e ▸ h⟩
  · rw [if_neg h, List.mem_append, List.mem_singleton]
theorem addK_nodup {ks : List Int} {k : Int} (n : ks.Nodup) : (addK ks k).Nodup := by
  unfold addK
  by_cases h : k ∈ ks
  · rw [if_pos h]
    exact n
  · rw [if_neg h]
    refine List.nodup_append.mpr ⟨n, List.pairwise_singleton _ _, fun a ha b hb e => ?_⟩
    have e2 := List.mem_singleton.mp hb
    exact h (e2 ▸ e ▸ ha)
theorem addK_len {ks : List Int} {k : Int} : (addK ks k).length ≤ ks.length + 1 := by
  unfold addK
  by_cases h : k ∈ ks
  · rw [if_pos h]
    omega
  · rw [if_neg h, List.length_append]
    exact Nat.le_refl _
theorem addAll_mem : ∀ {ls ks : List Int} {x : Int}, x ∈ addAll ks ls ↔ x ∈ ks ∨ x ∈ ls
  | [], ks, x => ⟨.inl, fun h => h.elim id fun z => nomatch z⟩
  | k :: r, ks, x => by
    show x ∈ addAll (addK ks k) r ↔ _
    rw [addAll_mem, addK_mem, List.mem_cons, or_assoc]
theorem addAll_nodup : ∀ {ls ks : List Int}, ks.Nodup → (addAll ks ls).Nodup
  | [], _, n => n
  | k :: r, ks, n => addAll_nodup (ls := r) (ks := addK ks k) (addK_nodup n)
theorem addAll_len : ∀ {ls ks : List Int}, (addAll ks ls).length ≤ ks.length + ls.length
  | [], ks => Nat.le_refl _
  | k :: r, ks => by
    have h1 := addAll_len (ls := r) (ks := addK ks k)
    have h2 := addK_len (ks := ks) (k := k)
    show (addAll (addK ks k) r).length ≤ ks.length + (r.length + 1)
    omega
theorem merge_set : ∀ (ls ks : List Int), mergeK (setK ks) (setK ls) = setK (addAll ks ls)
  | [], ks => rfl
  | k :: r, ks => by
    show mergeK (putK (setK ks) (Sum.inl k) (V.bl true)) (setK r) = setK (addAll (addK ks k) r)
    rw [putK_set]
    exact merge_set r (addK ks k)
theorem setK_append (ks ls : List Int) : setK ks ++ setK ls = setK (ks ++ ls) := by
  unfold setK
  rw [List.map_append]
theorem setK_len (ks : List Int) : (setK ks).length = ks.length := List.length_map _
theorem setK_get {ks : List Int} {i : Nat} {k : Key} {v : V} (h : (setK ks)[i]? = some (k, v)) : ∃ x, ks[i]? = some x ∧ kV k = .int x ∧ x ∈ ks := by
  unfold setK at h
  rw [List.getElem?_map] at h
  obtain ⟨x, hx, e⟩ := Option.map_eq_some_iff.mp h
  cases e
  exact ⟨x, hx, rfl, List.mem_of_getElem? hx⟩
theorem nodup_perm {a b : List Int} (p : a.Perm b) (n : b.Nodup) : a.Nodup := p.nodup_iff.mpr n
/-! ### rows of pairs, split at the last -/
theorem PairsV.snoc {H : Hp} : ∀ {g : List P2} {xs : List V} {p : P2}, PairsV H xs (g ++ [p]) → ∃ gs x, xs = gs ++ [x] ∧ PairsV H gs g ∧ PairV H x p
  | [], _, p, .cons r .nil => ⟨[], _, rfl, .nil, r⟩
  | q :: g, _, p, .cons r t => by
    obtain ⟨gs, x, e, h1, h2⟩ := PairsV.snoc t
    exact ⟨_ :: gs, x, by rw [e]; rfl, .cons r h1, h2⟩
theorem ixN_last (n : Nat) : ixN (n + 1) (-1) = some n := by
  unfold ixN
  rw [if_neg (by decide), if_pos (by omega)]
  have e : (-1 + ((n + 1 : Nat) : Int)).toNat = n := by omega
  rw [e]
theorem atI_last {α : Type} (xs : List α) (x : α) : atI (xs ++ [x]) (-1) = some x := by
  unfold atI
  rw [List.length_append]
  show (ixN (xs.length + 1) (-1)).bind _ = _
  rw [ixN_last]
  show (xs ++ [x])[xs.length]? = some x
  exact List.getElem?_concat_length
theorem atI_two0 {α : Type} (x y : α) : atI [x, y] 0 = some x := rfl
theorem atI_two1 {α : Type} (x y : α) : atI [x, y] 1 = some y := rfl
def dL (ps : List P2) : PyData := .list (ps.map dP)
theorem dp_lst {K : PySem.W.Frag} {H : Hp} {a : Addr} {xs : List V} {ps : List P2} (e : H a = some (.lst xs)) (q : PairsV H xs ps) : Dp K H (.ref a) (dL ps) := .lst (SqL.of e) (dpAll_pairs q)
theorem shaped_dL (ps : List P2) : SeqAt.shaped (dL ps) = true := by
  have e1 : PyData.canLay0 (dL ps) = true := by
    simp only [dL, PyData.canLay0]
    exact (shapeAll ps).1
  have e2 : PyData.depth (dL ps) ≤ 2 := by
    have := (shapeAll ps).2
    simp only [dL, PyData.depth]
    omega
  show (PyData.canLay0 (dL ps) && decide (PyData.depth (dL ps) ≤ 64)) = true
  rw [e1, Bool.true_and]
  exact decide_eq_true (by omega)
theorem eqv_dL (ps qs : List P2) : PyData.eqv (dL ps) (dL qs) = decide (ps = qs) := by
  simp only [dL, PyData.eqv]
  exact eqvAll_dP ps qs
theorem SpAt.canon {C : Addr} {H : Hp} {a : Addr} {ps : List P2} (h : SpAt C H a ps) : Canon ps := h.2.1
theorem SpAt.oks {C : Addr} {H : Hp} {a : Addr} {ps : List P2} (h : SpAt C H a ps) : Oks ps := h.2.2
theorem SpAt.len {C : Addr} {H : Hp} {a : Addr} {ps : List P2} (h : SpAt C H a ps) : ps.length ≤ cnt ps := len_cnt h.canon h.oks
section
variable {C a b : Addr} {H : Hp} {ps qs : List P2} {Q : VK} {E : XK}
theorem own_and (h1 : SpAt C H a ps) (h2 : SpAt C H b qs) (c1 : cnt ps ≤ 999) (c2 : cnt qs ≤ 999) (k : ∀ (H' : Hp) (r : Addr) (u : List P2), Same H H' → SpAt C H' r u → (∀ x, covers u x ↔ covers ps x ∧ covers qs x) → Q (.ref r) H') : rOwn C (spAnd C) E (.ref a) (.ref b) H Q := by
  have l1 := h1.len
  have l2 := h2.len
  have h1' := h1
  have h2' := h2
  obtain ⟨⟨dx, ta, e1, _⟩, _⟩ := h1'
  obtain ⟨⟨dy, tb, e2, _⟩, _⟩ := h2'
  exact ⟨a, b, dx, dy, _, _, rfl, rfl, e1, e2, a, b, ps, qs, rfl, h1, h2, by omega, by omega, k⟩
theorem own_or (h1 : SpAt C H a ps) (h2 : SpAt C H b qs) (c1 : cnt ps ≤ 999) (c2 : cnt qs ≤ 999) (k : ∀ (H' : Hp) (r : Addr) (u : List P2), Same H H' → SpAt C H' r u → (∀ x, covers u x ↔ covers ps x ∨ covers qs x) → Q (.ref r) H') : rOwn C (spOr C) E (.ref a) (.ref b) H Q := by
  have l1 := h1.len
  have l2 := h2.len
  have h1' := h1
  have h2' := h2
  obtain ⟨⟨dx, ta, e1, _⟩, _⟩ := h1'
  obtain ⟨⟨dy, tb, e2, _⟩, _⟩ := h2'
  exact ⟨a, b, dx, dy, _, _, rfl, rfl, e1, e2, a, b, ps, qs, rfl, h1, h2, by omega, by omega, k⟩
theorem own_sub (h1 : SpAt C H a ps) (h2 : SpAt C H b qs) (c1 : cnt ps ≤ 999) (c2 : cnt qs ≤ 999) (k : ∀ (H' : Hp) (r : Addr) (u : List P2), Same H H' → SpAt C H' r u → (∀ x, covers u x ↔ covers ps x ∧ ¬ covers qs x) → Q (.ref r) H') : rOwn C (spSub C) E (.ref a) (.ref b) H Q := by
  have l1 := h1.len
  have l2 := h2.len
  have h1' := h1
  have h2' := h2
  obtain ⟨⟨dx, ta, e1, _⟩, _⟩ := h1'
  obtain ⟨⟨dy, tb, e2, _⟩, _⟩ := h2'
  exact ⟨a, b, dx, dy, _, _, rfl, rfl, e1, e2, a, b, ps, qs, rfl, h1, h2, by omega, by omega, k⟩
theorem own_eq {K : PySem.W.Frag} {mg : Str → Option Value} (T : Txt K mg C) (h1 : SpAt C H a ps) (h2 : SpAt C H b qs) (k : Q (.bl (decide (ps = qs))) H) : rOwnEq K C (spEqS K C) E (.ref a) (.ref b) H Q := by
  have h1' := h1
  have h2' := h2
  obtain ⟨⟨dx, ta, e1, _⟩, _⟩ := h1'
  obtain ⟨⟨dy, tb, e2, _⟩, _⟩ := h2'
  exact ⟨a, dx, _, .ref C, rfl, e1, .base (.ins e2 T.cl T.ha T.hn T.htk T.hm), T.fS, a, .ref b, ps, _, rfl, h1, .inl ⟨b, qs, rfl, h2, rfl⟩, k⟩
theorem own_eqT {K : PySem.W.Frag} {mg : Str → Option Value} (T : Txt K mg C) (h1 : SpAt C H a ps) (h2 : SpAt C H b qs) (hc : ∀ x, covers ps x ↔ covers qs x) (k : Q (.bl true) H) : rOwnEq K C (spEqS K C) E (.ref a) (.ref b) H Q := by
  refine own_eq T h1 h2 ?_
  rw [decide_eq_true (canon_unique h1.canon h2.canon hc)]
  exact k
theorem own_len (h1 : SpAt C H a ps) (k : ∀ H', Same H H' → Q (.int (cnt ps : Nat)) H') : rOwnLen C (spLen C) E [.ref a] H Q := by
  have h1' := h1
  obtain ⟨⟨dx, ta, e1, _⟩, _⟩ := h1'
  have e := total_cnt h1.canon h1.oks
  have z := cnt_le ps
  have z2 : (mostN : Int) < 2 ^ 63 := by decide
  refine ⟨a, dx, _, rfl, e1, a, ps, rfl, h1, fun H' s => ⟨_, rfl, ?_, ?_, ?_⟩⟩
  · omega
  · omega
  · rw [e]
    exact k H' s
theorem own_lenN {σ : L2.St} (h1 : SpAt C H a ps) (k : ∀ H', Same H H' → Q (.int (cnt ps : Nat)) H') : tNil σ H fun xs H2 => rOwnLen C (spLen C) E (.ref a :: xs) H2 Q := own_len h1 k
end
theorem PotAt.tups {H H' : Hp} {p : Addr} {B : Int} (h : PotAt H p B) (b : But p H H') : TupsStay H H' := by
  obtain ⟨x, y, z, e, _⟩ := h
  exact b.tups e
theorem But.mut {p l : Addr} {H H' : Hp} {u : HO} (b : But p H H') (h : H l = none) : But p H (upd H' l u) := fun c o n e => by
  rw [upd_ne (ne_of_none e h)]
  exact b c o n e
theorem But.free {p l : Addr} {H H' : Hp} (b : But p H H') (n : l ≠ p) (h : H' l = none) : H l = none := by
  cases e : H l with
  | none => rfl
  | some o =>
    have := b l o n e
    rw [h] at this
    cases this
theorem oks_nil : Oks [] := fun p m => absurd m List.not_mem_nil
theorem oks_app {ps qs : List P2} (a : Oks ps) (b : Oks qs) : Oks (ps ++ qs) := fun p m => (List.mem_append.mp m).elim (a p) (b p)
theorem oks_one {p : P2} (h : Ok p) : Oks [p] := fun q m => (List.mem_singleton.mp m) ▸ h
theorem mk_sp0 {C : Addr} {H : Hp} {σ : L2.St} {Q : VK} {E : XK} (k : ∀ (H' : Hp) (x : Addr) (u : List P2), Same H H' → SpAt C H' x u → (∀ y, covers u y ↔ covers [] y) → Q (.ref x) H') : tMakeR C (spMade C) E tNil σ H Q :=
  made_sp (vs := []) (ps := []) (Q := fun x H => Q (.ref x) H) .nil oks_nil (by show 0 < sizeLine; decide) k
theorem set_sp0 {C : Addr} {H : Hp} {σ : L2.St} {D : Ends} {i : Nat} {rest : TS} {E : XK} (k : ∀ (H' : Hp) (x : Addr) (u : List P2), Same H H' → SpAt C H' x u → (∀ y, covers u y ↔ covers [] y) → rest D (σ.set i (some (.ref x))) H') : tSeq (tAsg (tMakeR C (spMade C) E tNil) (gName i)) rest D σ H :=
  mk_sp0 (σ := σ) (Q := fun v H' => gName i v σ H' (rest D)) k
/-! ### promises of the law's defs -/
def spPlaces : Sp := fun vs H Q _ => ∃ (l : Addr) (ps : List P2), vs = [.ref l] ∧ LstP H l ps ∧ Oks ps ∧ (∀ p ∈ ps, p.2 - p.1 ≤ 9) ∧ ps.length ≤ 5 ∧
  ∀ (H' : Hp) (d : Addr) (ks : List Int), Same H H' → H d = none → H' d = some (.dK (setK ks)) → ks.Nodup → (∀ x, x ∈ ks ↔ covers ps x) → ks.length ≤ 45 → Q (.ref d) H'
def spCouples : Sp := fun vs H Q _ => ∃ (d : Addr) (ks : List Int), vs = [.ref d] ∧ H d = some (.dK (setK ks)) ∧ ks.Nodup ∧ (∀ x ∈ ks, 0 ≤ x ∧ x < 1000000) ∧ ks.length ≤ 1000 ∧
  ∀ (H' : Hp) (t : Addr) (u : List P2), Same H H' → TupP H' t u → Canon u → Oks u → (∀ x, covers u x ↔ x ∈ ks) → Q (.ref t) H'
def spDrawn : Sp := fun vs H Q _ => ∃ (p : Addr) (B : Int), vs = [.ref p, .int 5, .int 24] ∧ PotAt H p B ∧ B ≤ 90000 ∧
  ∀ (H' : Hp) (l : Addr) (ps : List P2), But p H H' → PotAt H' p (B + 20) → l ≠ p → H l = none → LstP H' l ps → Oks ps → (∀ q ∈ ps, q.2 - q.1 ≤ 9) → ps.length ≤ 5 → Q (.ref l) H'
def spOf (C : Addr) : Sp := fun vs H Q _ => ∃ (d : Addr) (ks : List Int), vs = [.ref d] ∧ H d = some (.dK (setK ks)) ∧ ks.Nodup ∧ (∀ x ∈ ks, 0 ≤ x ∧ x < 1000000) ∧ ks.length ≤ 100 ∧
  ∀ (H' : Hp) (a : Addr) (u : List P2), Same H H' → SpAt C H' a u → (∀ x, covers u x ↔ x ∈ ks) → Q (.ref a) H'
def spRules (C : Addr) : Sp := fun vs H Q _ => ∃ (a b c : Addr) (ps qs rs : List P2), vs = [.ref a, .ref b, .ref c] ∧ SpAt C H a ps ∧ SpAt C H b qs ∧ SpAt C H c rs ∧ cnt ps ≤ 100 ∧ cnt qs ≤ 100 ∧ cnt rs ≤ 100 ∧ ∀ H', Same H H' → Q (.bl true) H'
theorem iteNo {A B : Prop} (h : B) : if (!true) = true then A else B := iteF h
theorem test_no {A B : Prop} (h : B) : if (!true) = true then A else B := iteF h
end S1

namespace S1
open PySem PySem.Spec PyProof.Rows L2 StX M1
theorem Same.unlock {H H' : Hp} {d : Addr} {u : HO} {od : Obj} (hd : H d = some u) (s : Same (upd H d (.frz od u)) H') : Same H (upd H' d u) := fun b o e => by
  by_cases h : b = d
  · rw [h, hd] at e
    rw [h, upd_same, e]
  · rw [upd_ne h]
    refine s b o ?_
    rw [upd_ne h]
    exact e
theorem paired_app {α β : Type} {F : α → β → Prop} : ∀ {a c : List α} {b d : List β}, Paired F a b → Paired F c d → Paired F (a ++ c) (b ++ d)
  | _, _, _, _, .nil, q => q
  | _, _, _, _, .cons h t, q => .cons h (paired_app t q)
/-- [(k, True) for k in d if f(k)], d a locked dict of ints -/
theorem lc_keys {od : Obj} {d D : Addr} {H0 : Hp} {ks : List Int} {f : Int → Bool} {B : V → Hp → (Hp → Prop) → Prop} {Qd : Hp → Prop} (hH : H0 d = some (.frz od (.dK (setK ks)))) (nD : H0 D = none) (hz : ks.length ≤ sizeLine)
    (hB : ∀ (H' : Hp) (k : Int) (acc : List V) (Nx : Hp → Prop), k ∈ ks → Same H0 H' → H' D = some (.lst acc) → acc.length < sizeLine → (f k = true → ∀ r, H' r = none → Nx (upd (upd H' r (.tup [.int k, .bl true])) D (.lst (acc ++ [.ref r])))) → (f k = false → Nx H') → B (.int k) H' Nx)
    (hd : ∀ (H' : Hp) (as : List Addr), Same H0 H' → H' D = some (.lst (as.map V.ref)) → Paired (fun (p : Addr) (kv : Key × V) => H' p = some (.tup [kV kv.1, kv.2])) as (setK (ks.filter f)) → Qd H') :
    ∃ W : Nat → Nat → Hp → Prop, (∃ m, W 0 m (upd H0 D (.lst []))) ∧ ∀ i m H, W i m H →
      ((Itk d od (setK ks)).stop i H ∧ Qd H) ∨ ((Itk d od (setK ks)).go i H ∧ ∃ Nx : Hp → Prop, (∀ H', Nx H' → ∃ m', m' < m ∧ W (i + 1) m' H') ∧ ∀ x H', (Itk d od (setK ks)).yld i H x H' → B x H' Nx) := by
  refine lc_it (n := ks.length) (fun i H' => ∃ as : List Addr, Same H0 H' ∧ H' D = some (.lst (as.map V.ref)) ∧ Paired (fun (p : Addr) (kv : Key × V) => H' p = some (.tup [kV kv.1, kv.2])) as (setK ((ks.take i).filter f)) ∧ as.length ≤ i)
    ⟨[], Same.new nD, upd_same, .nil, Nat.le_refl _⟩ (fun i H' hi ⟨_, s, _⟩ => ⟨s _ _ hH, by rw [setK_len]; exact hi⟩) (fun H' ⟨_, s, _⟩ => ⟨s _ _ hH, by rw [setK_len]; exact Nat.le_refl _⟩) ?_ ?_
  · rintro i H' x H2 hi ⟨as, s, e, q, la⟩ ⟨rfl, k, v, hk, rfl⟩
    obtain ⟨y, hy, ek, my⟩ := setK_get hk
    rw [ek]
    have stp : (ks.take (i + 1)).filter f = (ks.take i).filter f ++ [y].filter f := by
      rw [List.take_add_one, hy, List.filter_append]
      rfl
    refine hB H2 y (as.map V.ref) _ my s e (by rw [List.length_map]; omega) (fun hf r nr => ?_) (fun hf => ?_)
    · have nDr : D ≠ r := ne_of_none e nr
      refine ⟨as ++ [r], Same.mut (Same.mut s (s.free nr)) nD, (by rw [upd_same, List.map_append]; rfl), ?_, by rw [List.length_append]; exact Nat.succ_le_succ la⟩
      rw [stp, List.filter_cons, if_pos hf, List.filter_nil, ← setK_append]
      have kp : TupsStay H2 (upd (upd H2 r (.tup [.int y, .bl true])) D (.lst (as.map V.ref ++ [.ref r]))) := TupsStay.trans (Same.tups (Same.new nr)) (TupsStay.upd fun z => by rw [upd_ne nDr, e]; intro w; cases w)
      refine paired_app (Paired.imp2 (fun a b h => kp _ _ h) q) (.cons ?_ .nil)
      rw [upd_ne nDr.symm, upd_same]
      rfl
    · refine ⟨as, s, e, ?_, by omega⟩
      rw [stp, List.filter_cons, if_neg (by rw [hf]; decide), List.filter_nil, List.append_nil]
      exact q
  · rintro H' ⟨as, s, e, q, la⟩
    rw [List.take_length] at q
    exact hd H' as s e q
theorem sub_len : ∀ {ks ls : List Int}, ks.Nodup → (∀ x ∈ ks, x ∈ ls) → ks.length ≤ ls.length
  | [], _, _, _ => Nat.zero_le _
  | k :: r, ls, n, h => by
    obtain ⟨n1, n2⟩ := List.nodup_cons.mp n
    have m := h k List.mem_cons_self
    have ih := sub_len (ls := ls.erase k) n2 fun x mx => (List.mem_erase_of_ne (fun e : x = k => n1 (by rw [← e]; exact mx))).mpr (h x (List.mem_cons_of_mem _ mx))
    rw [List.length_erase_of_mem m] at ih
    have p : 0 < ls.length := List.length_pos_of_mem m
    rw [List.length_cons]
    omega
theorem same_keys {ks ls : List Int} (n1 : ks.Nodup) (n2 : ls.Nodup) : (ks.length == ls.length && ks.all fun k => decide (k ∈ ls)) = true ↔ ∀ x, x ∈ ks ↔ x ∈ ls := by
  rw [Bool.and_eq_true, beq_iff_eq, List.all_eq_true]
  constructor
  · rintro ⟨e, h⟩ x
    have h : ∀ y ∈ ks, y ∈ ls := fun y m => of_decide_eq_true (h y m)
    refine ⟨h x, fun m => ?_⟩
    by_cases c : x ∈ ks
    · exact c
    · have := sub_len (ks := x :: ks) (ls := ls) (List.nodup_cons.mpr ⟨c, n1⟩) fun y my => (List.mem_cons.mp my).elim (fun z => z ▸ m) (h y)
      rw [List.length_cons] at this
      omega
  · intro h
    have a := sub_len n1 fun x m => (h x).mp m
    have b := sub_len n2 fun x m => (h x).mpr m
    exact ⟨by omega, fun x m => decide_eq_true ((h x).mp m)⟩
def dL3 (a b c : List P2) : PyData := .list [dT a, dT b, dT c]
theorem shaped_dL3 (a b c : List P2) : SeqAt.shaped (dL3 a b c) = true := by
  have h1 := depth_dT a
  have h2 := depth_dT b
  have h3 := depth_dT c
  have e1 : PyData.canLay0 (dL3 a b c) = true := by
    simp only [dL3, PyData.canLay0, PyData.canLayAll0, canLay_dT, Bool.and_self]
  have e2 : PyData.depth (dL3 a b c) ≤ 3 := by
    simp only [dL3, PyData.depth, PyData.depthAll]
    omega
  show (PyData.canLay0 (dL3 a b c) && decide (PyData.depth (dL3 a b c) ≤ 64)) = true
  rw [e1, Bool.true_and]
  exact decide_eq_true (by omega)
theorem eqv_dL3 (a b c : List P2) : PyData.eqv (dL3 a b c) (dL3 a b c) = true := by
  simp only [dL3, PyData.eqv, PyData.eqvAll, eqv_dT, decide_true, Bool.and_self]
theorem dp_L3 {K : PySem.W.Frag} {H : Hp} {p a b c : Addr} {ps qs rs : List P2} (e : H p = some (.lst [.ref a, .ref b, .ref c])) (h1 : TupP H a ps) (h2 : TupP H b qs) (h3 : TupP H c rs) : Dp K H (.ref p) (dL3 ps qs rs) :=
  .lst (SqL.of e) (.cons (dp_tup h1) (.cons (dp_tup h2) (.cons (dp_tup h3) .nil)))
theorem filter_nodup {f : Int → Bool} {ks : List Int} (n : ks.Nodup) : (ks.filter f).Nodup := List.Pairwise.filter _ n
section
variable {C a b : Addr} {H : Hp} {ps qs : List P2} {Q : VK} {E : XK} {K : PySem.W.Frag} {mg : Str → Option Value}
theorem own_eq0 (T : Txt K mg C) (h1 : SpAt C H a ps) {xs : List V} (e : H b = some (.tup xs)) (k : Q (.bl false) H) : rOwnEq K C (spEqS K C) E (.ref a) (.ref b) H Q := by
  have h1' := h1
  obtain ⟨⟨dx, ta, e1, _⟩, _⟩ := h1'
  exact ⟨a, dx, _, .type "tuple", rfl, e1, .base (.tup e), T.fT, a, .ref b, ps, false, rfl, h1, .inr ⟨rfl, .inl ⟨b, xs, rfl, e⟩⟩, k⟩
theorem own_eqI (T : Txt K mg C) (h1 : SpAt C H a ps) {i : Int} (k : Q (.bl false) H) : rOwnEq K C (spEqS K C) E (.ref a) (.int i) H Q := by
  have h1' := h1
  obtain ⟨⟨dx, ta, e1, _⟩, _⟩ := h1'
  exact ⟨a, dx, _, .type "int", rfl, e1, .base (.int i), T.fI, a, .int i, ps, false, rfl, h1, .inr ⟨rfl, .inr ⟨i, rfl⟩⟩, k⟩
end
theorem merge_nil (l : List Int) : mergeK [] (setK l) = setK (addAll [] l) := merge_set l []
theorem addAll_nil {l : List Int} {x : Int} : x ∈ addAll [] l ↔ x ∈ l := by
  rw [addAll_mem]
  exact ⟨fun h => h.elim (fun z => absurd z List.not_mem_nil) id, .inr⟩
theorem addAll_nil_len {l : List Int} : (addAll [] l).length ≤ l.length := by
  have := addAll_len (ls := l) (ks := [])
  rw [List.length_nil] at this
  omega
theorem filter_len {f : Int → Bool} {l : List Int} : (l.filter f).length ≤ l.length := List.length_filter_le _ _
theorem pair_up {H H' : Hp} {as : List Addr} {kvs : List (Key × V)} (s : TupsStay H H') (q : Paired (fun (p : Addr) (kv : Key × V) => H p = some (.tup [kV kv.1, kv.2])) as kvs) : Paired (fun (p : Addr) (kv : Key × V) => H' p = some (.tup [kV kv.1, kv.2])) as kvs :=
  Paired.imp2 (fun a b h => s _ _ h) q
theorem pair_sq {K : PySem.W.Frag} {H : Hp} {as : List Addr} {kvs : List (Key × V)} (q : Paired (fun (p : Addr) (kv : Key × V) => H p = some (.tup [kV kv.1, kv.2])) as kvs) : Paired (fun (p : Addr) (kv : Key × V) => SqT K H p [kV kv.1, kv.2]) as kvs :=
  Paired.imp2 (fun a b h => SqT.of h) q
theorem unlock_tups {H : Hp} {d : Addr} {od : Obj} {u w : HO} (h : H d = some (.frz od u)) : TupsStay H (upd H d w) := TupsStay.upd fun z => by rw [h]; intro c; cases c
def spTwo (C : Addr) : Sp := fun vs H Q _ => ∃ (a b d e : Addr) (ps qs : List P2) (ks ls : List Int), vs = [.ref a, .ref b, .ref d, .ref e] ∧ SpAt C H a ps ∧ SpAt C H b qs ∧ H d = some (.dK (setK ks)) ∧ H e = some (.dK (setK ls)) ∧ ks.Nodup ∧ ls.Nodup ∧ (∀ x, covers ps x ↔ x ∈ ks) ∧ (∀ x, covers qs x ↔ x ∈ ls) ∧ ks.length ≤ 45 ∧ ls.length ≤ 45 ∧
  ∀ H', Same H H' → Q (.bl true) H'
theorem covers_in {ps : List P2} (o : Oks ps) {x : Int} (h : covers ps x) : 0 ≤ x ∧ x < 1000000 := by
  obtain ⟨p, m, a, b⟩ := h
  obtain ⟨o1, o2, o3⟩ := o p m
  omega
def spRight : Sp := fun vs H Q _ => ∃ p : Addr, vs = [.ref p] ∧ PotAt H p 0 ∧ ∀ H', But p H H' → Q (.bl true) H'
theorem PotAt.keep {H H' : Hp} {p d : Addr} {B : Int} {o : HO} (h : PotAt H p B) (b : But p H H') (e : H d = some o) (hn : ∀ xs, o ≠ .lst xs) : H' d = some o := by
  obtain ⟨x, y, z, q, _⟩ := h
  refine b d o (fun c => ?_) e
  rw [c, q] at e
  exact hn _ (Option.some.inj e).symm
/-- a dict of the places -/
def DctP (H : Hp) (d : Addr) (ks : List Int) : Prop := H d = some (.dK (setK ks)) ∧ ks.Nodup ∧ (∀ x ∈ ks, 0 ≤ x ∧ x < 1000000) ∧ ks.length ≤ 45
theorem DctP.same {H H' : Hp} {d : Addr} {ks : List Int} (h : DctP H d ks) (s : Same H H') : DctP H' d ks := ⟨s _ _ h.1, h.2⟩
theorem DctP.but {H H' : Hp} {d p : Addr} {ks : List Int} {B : Int} (h : DctP H d ks) (q : PotAt H p B) (b : But p H H') : DctP H' d ks := ⟨q.keep b h.1 (fun xs c => by cases c), h.2⟩
theorem Paired.three {α β : Type} {F : α → β → Prop} {a : List α} {b : List β} (h : Paired F a b) (l : a.length = 3) : ∃ a1 a2 a3 b1 b2 b3, a = [a1, a2, a3] ∧ F a1 b1 ∧ F a2 b2 ∧ F a3 b3 := by
  cases h with
  | nil => cases l
  | cons h1 t =>
    cases t with
    | nil => cases l
    | cons h2 t =>
      cases t with
      | nil => cases l
      | cons h3 t =>
        cases t with
        | nil => exact ⟨_, _, _, _, _, _, rfl, h1, h2, h3⟩
        | cons h4 t => simp at l
theorem PairsV.rev {H : Hp} : ∀ {xs : List V} {ps : List P2}, PairsV H xs ps → PairsV H xs.reverse ps.reverse
  | _, _, .nil => .nil
  | _, _, .cons h t => by
    rw [List.reverse_cons, List.reverse_cons]
    exact PairsV.app (PairsV.rev t) (.cons h .nil)
theorem Same.ofBut {H H1 H2 : Hp} {l : Addr} (s : Same H H1) (n : H l = none) (b : But l H1 H2) : Same H H2 := fun c o e => b c o (fun z => by rw [z, n] at e; cases e) (s c o e)
def spLaw (K : PySem.W.Frag) : Sp := fun vs H Q _ => ∃ (a : Addr) (ns : List Int), vs = [.ref a] ∧ SqL K H a (ns.map V.int) ∧ ∀ H', Q (.bl true) H'
theorem turns (n : Int) (h : 0 ≤ n) : ∃ j : Int, (if (if n < 3 then n else 3) > 1 then (if n < 3 then n else 3) else 1) = j ∧ 1 ≤ j ∧ j ≤ 3 := by
  refine ⟨_, rfl, ?_, ?_⟩
  · split <;> omega
  · split
    · split <;> omega
    · omega
end S1

namespace S1
open PySem PySem.Spec PyProof.Rows L2 StX M1
/-! ### values of any kind -/
def intB : PyData → Bool
  | .int _ => true
  | _ => false
def spanB : PyData → Bool
  | .tuple [.int a, .int b] => decide (0 ≤ a ∧ a < b ∧ b ≤ 1000000)
  | _ => false
def tyD : PyData → String
  | .none => "NoneType"
  | .bool _ => "bool"
  | .int _ => "int"
  | .str _ => "str"
  | .list _ => "list"
  | .tuple _ => "tuple"
  | .dict _ => "dict"
def isI : PyData → Bool
  | .int _ => true
  | .bool _ => true
  | _ => false
def isB : PyData → Bool
  | .bool _ => true
  | _ => false
def isT : PyData → Bool
  | .tuple _ => true
  | _ => false
theorem dq_ty {K : PySem.W.Frag} {H : Hp} {x : V} {d : PyData} (h : Dq K H x d) : TyX K H x (.type (tyD d)) := by
  cases h with
  | non => exact .base .non
  | bl b => exact .base (.bl b)
  | int i => exact .base (.int i)
  | str x => exact .base (.str x)
  | lst e _ => exact .base (.lst e)
  | tup e _ => exact .base (.tup e)
  | dct e _ _ => exact .base (.dK e)
theorem kit_int {K : PySem.W.Frag} : ∀ d : PyData, PySem.W.kitOne K (.type (tyD d)) (.type "int") = some (isI d)
  | .none => kit_ty (show kitB "NoneType" "int" = some false by decide +kernel)
  | .bool _ => kit_ty (show kitB "bool" "int" = some true by decide +kernel)
  | .int _ => kit_ty (show kitB "int" "int" = some true by decide +kernel)
  | .str _ => kit_ty (show kitB "str" "int" = some false by decide +kernel)
  | .list _ => kit_ty (show kitB "list" "int" = some false by decide +kernel)
  | .tuple _ => kit_ty (show kitB "tuple" "int" = some false by decide +kernel)
  | .dict _ => kit_ty (show kitB "dict" "int" = some false by decide +kernel)
theorem kit_bool {K : PySem.W.Frag} : ∀ d : PyData, PySem.W.kitOne K (.type (tyD d)) (.type "bool") = some (isB d)
  | .none => kit_ty (show kitB "NoneType" "bool" = some false by decide +kernel)
  | .bool _ => kit_ty (show kitB "bool" "bool" = some true by decide +kernel)
  | .int _ => kit_ty (show kitB "int" "bool" = some false by decide +kernel)
  | .str _ => kit_ty (show kitB "str" "bool" = some false by decide +kernel)
  | .list _ => kit_ty (show kitB "list" "bool" = some false by decide +kernel)
  | .tuple _ => kit_ty (show kitB "tuple" "bool" = some false by decide +kernel)
  | .dict _ => kit_ty (show kitB "dict" "bool" = some false by decide +kernel)
theorem kit_tup {K : PySem.W.Frag} : ∀ d : PyData, PySem.W.kitOne K (.type (tyD d)) (.type "tuple") = some (isT d)
  | .none => kit_ty (show kitB "NoneType" "tuple" = some false by decide +kernel)
  | .bool _ => kit_ty (show kitB "bool" "tuple" = some false by decide +kernel)
  | .int _ => kit_ty (show kitB "int" "tuple" = some false by decide +kernel)
  | .str _ => kit_ty (show kitB "str" "tuple" = some false by decide +kernel)
  | .list _ => kit_ty (show kitB "list" "tuple" = some false by decide +kernel)
  | .tuple _ => kit_ty (show kitB "tuple" "tuple" = some true by decide +kernel)
  | .dict _ => kit_ty (show kitB "dict" "tuple" = some false by decide +kernel)
theorem int_and (d : PyData) : (isI d && !isB d) = intB d := by cases d <;> rfl
theorem dq_int {K : PySem.W.Frag} {H : Hp} {x : V} {d : PyData} (h : Dq K H x d) (e : intB d = true) : ∃ i, d = .int i ∧ x = .int i := by
  cases h <;> first | exact ⟨_, rfl, rfl⟩ | cases e
/-- [f(x) for x in xs], f of the data alone -/
theorem lc_dqs {K : PySem.W.Frag} {J : It} {H0 H : Hp} {D : Addr} {xs : List V} {ds : List PyData} {v : PyData → V} {B : V → Hp → (Hp → Prop) → Prop} {Qd : Hp → Prop} (wk : Walks J H0 xs) (hp : DqA K H0 xs ds) (s : Same H0 H) (nD : H D = none) (hz : xs.length ≤ sizeLine)
    (hB : ∀ (H' : Hp) (x : V) (d : PyData) (Nx : Hp → Prop), d ∈ ds → Same H0 H' → Dq K H' x d → (∃ acc, H' D = some (.lst acc) ∧ acc.length < sizeLine ∧ Nx (upd H' D (.lst (acc ++ [v d])))) → B x H' Nx)
    (hd : ∀ H', Same H0 H' → Same H H' → H' D = some (.lst (ds.map v)) → Qd H') :
    ∃ W : Nat → Nat → Hp → Prop, (∃ m, W 0 m (upd H D (.lst []))) ∧ ∀ i m H, W i m H →
      (J.stop i H ∧ Qd H) ∨ (J.go i H ∧ ∃ Nx : Hp → Prop, (∀ H', Nx H' → ∃ m', m' < m ∧ W (i + 1) m' H') ∧ ∀ x H', J.yld i H x H' → B x H' Nx) := by
  have l := DqA.len hp
  refine lc_it (n := xs.length) (fun i H' => Same H0 H' ∧ Same H H' ∧ H' D = some (.lst ((ds.take i).map v))) ⟨Same.mut s (s.free nD), Same.new nD, upd_same⟩ (fun i H' hi q => wk.go _ _ q.1 hi) (fun H' q => wk.stop _ q.1) ?_ (fun H' q => hd _ q.1 q.2.1 (by have e := q.2.2; rw [l, List.take_length] at e; exact e))
  rintro i H' x H2 hi ⟨s1, s2, e⟩ y
  obtain ⟨rfl, hx⟩ := wk.yld _ _ _ _ s1 y
  obtain ⟨d, hd2, q⟩ := DqA.get (DqA.same s1 hp) hx
  refine hB _ _ d _ (List.mem_of_getElem? hd2) s1 q ⟨_, e, ?_, Same.mut s1 (s.free nD), Same.mut s2 nD, ?_⟩
  · rw [List.length_map, List.length_take]
    omega
  · rw [upd_same, List.take_add_one, hd2, List.map_append]
    rfl
theorem dqA_pairs {K : PySem.W.Frag} {H : Hp} : ∀ {xs : List V} {ds : List PyData}, DqA K H xs ds → ds.all spanB = true → ∃ ps : List P2, ds = ps.map dP ∧ PairsV H xs ps ∧ Oks ps
  | _, _, .nil, _ => ⟨[], rfl, .nil, oks_nil⟩
  | _, _, .cons (d := d) h t, e => by
    rw [List.all_cons, Bool.and_eq_true] at e
    obtain ⟨ps, e1, e2, e3⟩ := dqA_pairs t e.2
    have e0 := e.1
    unfold spanB at e0
    split at e0
    · rename_i a b
      cases h with
      | tup ht ha =>
        cases ha with
        | cons h1 r =>
          cases r with
          | cons h2 r =>
            cases r
            cases h1
            cases h2
            have o := of_decide_eq_true e0
            exact ⟨(a, b) :: ps, by rw [e1]; rfl, .cons ⟨_, rfl, ht⟩ e2, fun p m => (List.mem_cons.mp m).elim (fun z => z ▸ o) (e3 p)⟩
    · cases e0
theorem pairs_dqA {K : PySem.W.Frag} {H : Hp} : ∀ {xs : List V} {ps : List P2}, PairsV H xs ps → DqA K H xs (ps.map dP)
  | _, _, .nil => .nil
  | _, _, .cons ⟨t, e, h⟩ r => by
    subst e
    exact .cons (.tup h (.cons (.int _) (.cons (.int _) .nil))) (pairs_dqA r)
theorem spanB_dP {p : P2} (o : Ok p) : spanB (dP p) = true := decide_eq_true o
theorem all_dP : ∀ {ps : List P2}, Oks ps → (ps.map dP).all spanB = true
  | [], _ => rfl
  | p :: r, o => by
    rw [List.map_cons, List.all_cons, spanB_dP (o p List.mem_cons_self), all_dP fun q m => o q (List.mem_cons_of_mem _ m)]
    rfl
/-! ### promises -/
def spInt7 (K : PySem.W.Frag) : Sp := fun vs H Q _ => ∃ (x : V) (d : PyData), vs = [x] ∧ Dq K H x d ∧ Q (.bl (intB d)) H
def spSpan7 (K : PySem.W.Frag) : Sp := fun vs H Q _ => ∃ (x : V) (d : PyData), vs = [x] ∧ Dq K H x d ∧ Q (.bl (spanB d)) H
def spInit7 (K : PySem.W.Frag) (C CB : Addr) : Sp := fun vs H Q E => ∃ (p dx a : Addr) (xs : List V) (ds : List PyData), vs = [.ref p, .ref a] ∧ H p = some (.ins C dx []) ∧ H a = some (.tup xs) ∧ DqA K H xs ds ∧ ds.length < sizeLine ∧
  (∀ ps : List P2, ds = ps.map dP → PairsV H xs ps → Oks ps → ∀ (H' : Hp) (u : List P2), (∀ b o, b ≠ p → H b = some o → H' b = some o) → SpAt C H' p u → (∀ x, covers u x ↔ covers ps x) → Q .non H') ∧
  (ds.all spanB = false → ∀ (H' : Hp) (dd : Addr), Same H H' → H' dd = some (.xd [(("value" : Str), .ref a)]) → E (.ref CB) (some dd) H')
abbrev spMade7 (K : PySem.W.Frag) (C CB : Addr) : Sp := fun vs H Q E => ∃ ws rest, vs = ws ++ rest ∧ ws.length = ["self"].length ∧ rest.length ≤ sizeLine ∧ ∀ p, H p = Option.none → spInit7 K C CB (ws ++ [V.ref p]) (upd H p (.tup rest)) Q E
def spIn7 (K : PySem.W.Frag) (C : Addr) : Sp := fun vs H Q _ => ∃ (a : Addr) (x : V) (ps : List P2) (d : PyData), vs = [.ref a, x] ∧ SpAt C H a ps ∧ Dq K H x d ∧ ∀ (H' : Hp) (b : Bool), Same H H' → (b = true ↔ ∃ i, d = .int i ∧ covers ps i) → Q (.bl b) H'
/-- what the top has written -/
structure Tx7 (P : Program) (K : PySem.W.Frag) (mg : Str → Option Value) (C CB CK fB : Addr) : Prop where
  n_int : mg "int" = none
  n_bool : mg "bool" = none
  n_tuple : mg "tuple" = none
  n_len : mg "len" = none
  n_max : mg "max" = none
  n_min : mg "min" = none
  n_sum : mg "sum" = none
  n_all : mg "all" = none
  n_any : mg "any" = none
  n_abs : mg "abs" = none
  n_sorted : mg "sorted" = none
  n_range : mg "range" = none
  n_repr : mg "repr" = none
  n_isinstance : mg "isinstance" = none
  n_ValueError : mg "ValueError" = none
  g_PAIR : ∃ t, mg "PAIR" = some (.int 2 t)
  g_MOST : ∃ t, mg "MOST" = some (.int 1000000 t)
  c_Spans : mg "Spans" = some (.ref C)
  c_Bad : mg "BadSpans" = some (.ref CB)
  c_Keeper : mg "KeeperError" = some (.ref CK)
  cl : Cls K C
  nP : NoAttr K C "pairs"
  nM : NoAttr K C "many_positions"
  sup : SupTxt P K CB fB "BadSpans.__init__"
  exB : ExcC K CB
  xfB : XfC K CB
  hit : PySem.W.exmOne K (.ref CB) (.ref CK) = some true
  kB : PySem.W.kitOne K (.ref CB) (.ref CB) = some true
  kV : PySem.W.kitOne K (.ref CB) (.type "ValueError") = some true
end S1

namespace S1
open PySem PySem.Spec PyProof.Rows L2 StX M1
/-! ### a def that may raise; a def that is called where no repr is under way -/
structure CalX (P : Program) (w : World) (K : PySem.W.Frag) (mg : Str → Option Value) (base : Heap) (k : Nat) (x : Str) (ps : List Str) (sp : Sp) (f : Addr) (fd : FuncData) : Prop where
  ok : FnOk P w K mg base (L2.CX P w) k f fd ps sp
  gm : mg x = some (.ref f)
  kp : PySem.W.keepIn K (.ref f) = true
  b : Binds K fd ps []
structure CalG (P : Program) (w : World) (K : PySem.W.Frag) (mg : Str → Option Value) (base : Heap) (k : Nat) (x : Str) (ps : List Str) (sp : Sp) (f : Addr) (fd : FuncData) : Prop where
  ok : FnG P w K mg base CX0 k f fd ps sp
  gm : mg x = some (.ref f)
  kp : PySem.W.keepIn K (.ref f) = true
  b : Binds K fd ps []
structure SpX7 (P : Program) (w : World) (K : PySem.W.Frag) (mg : Str → Option Value) (base : Heap) (C fI CB : Addr) : Prop where
  m : Mk K C fI
  f : FnR P w K mg base (L2.CX P w) 3 fI (spMade7 K C CB)
  g : mg "Spans" = some (.ref C)
structure SpO7 (P : Program) (w : World) (K : PySem.W.Frag) (mg : Str → Option Value) (base : Heap) (C : Addr) : Prop where
  in_ : MethOk P w K mg base C 2 "__contains__" ["self", "position"] (spIn7 K C)
  len_ : MethOk P w K mg base C 1 "__len__" ["self"] (spLen C)
section
variable {X : Cx} {k m : Nat} {f C fI CB : Addr} {fd : FuncData} {ps : List Str} {sp : Sp} {x : Str} {p pos : Pos} {e : Expr} {es : List Expr} {t : TA} {E : XK} {Es : L2.St → XK}
theorem pe_cG (D : CalG X.prog X.w X.K X.mg X.base k x ps sp f fd) (gd : X.A.guards = some []) (hr : Room m X.A) (hg : Gl X x) (ha : PA X (e :: es) t) (hk : k ≤ m := by decide) (hdb : (x == ("__debug__" : Str)) = false := by decide)
    (he : starEach (e :: es) X.env = (false, eval e X.env) :: starEach es X.env := by rfl) (hpl : (backTo pos (starEach es X.env)).any (·.1) = false := by rfl) : PE X (.Call (.Name x p) (e :: es) [] pos) (tCall sp [] E0 t) :=
  pe_callG D.ok gd (hr.mono hk) hg D.gm D.kp D.b pass0 ha hdb he hpl
theorem pe_cS (D : CalX X.prog X.w X.K X.mg X.base k x ps sp f fd) (hr : Room m X.A) (hg : Gl X x) (hx : ∀ σ, PassesAt (L2.CX X.prog X.w) X σ (Es σ)) (ha : PA X (e :: es) t) (hk : k ≤ m := by decide) (hdb : (x == ("__debug__" : Str)) = false := by decide)
    (he : starEach (e :: es) X.env = (false, eval e X.env) :: starEach es X.env := by rfl) (hpl : (backTo pos (starEach es X.env)).any (·.1) = false := by rfl) : PE X (.Call (.Name x p) (e :: es) [] pos) (tCallS sp Es t) :=
  pe_callS D.ok (hr.mono hk) hg D.gm D.kp D.b hx ha hdb he hpl
theorem pe_spx0 (S : SpX7 X.prog X.w X.K X.mg X.base C fI CB) (hx : Passes (L2.CX X.prog X.w) X E) (hr : Room m X.A) (hg : Gl X "Spans") (hk : 4 ≤ m := by decide) : PE X (.Call (.Name "Spans" p) [] [] pos) (tMakeR C (spMade7 X.K C CB) E tNil) :=
  pe_makeR0 S.m S.f (hr.mono hk) hg S.g hx
theorem pe_spx (S : SpX7 X.prog X.w X.K X.mg X.base C fI CB) (hx : Passes (L2.CX X.prog X.w) X E) (hr : Room m X.A) (hg : Gl X "Spans") (ha : PA X (e :: es) t) (hk : 4 ≤ m := by decide)
    (he : starEach (e :: es) X.env = (false, eval e X.env) :: starEach es X.env := by rfl) (hpl : (backTo pos (starEach es X.env)).any (·.1) = false := by rfl) : PE X (.Call (.Name "Spans" p) (e :: es) [] pos) (tMakeR C (spMade7 X.K C CB) E t) :=
  pe_makeR S.m S.f (hr.mono hk) hg S.g hx ha (by decide) he hpl
theorem SpO7.oIn (S : SpO7 X.prog X.w X.K X.mg X.base C) (hr : Room m X.A) (h : 2 ≤ m := by decide) : OpR X (compareOp .In) (rOwnIn C (spIn7 X.K C) E0) := by
  obtain ⟨f, fd, F, b, hs, hf⟩ := S.in_
  exact op_ownIn F (hr.mono h) b pass0 hs hf
theorem SpO7.oLen (S : SpO7 X.prog X.w X.K X.mg X.base C) (hr : Room m X.A) (h : 2 ≤ m := by decide) : CallR X (.builtin "len") (rOwnLen C (spLen C) E0) := by
  obtain ⟨f, fd, F, b, hs, hf⟩ := S.len_
  exact call_ownLen F (hr.mono h) b (fun _ _ _ _ _ _ _ z => z) hs hf
end
/-- what a call of the class asks, and gives -/
theorem made_x {K : PySem.W.Frag} {C CB : Addr} {H : Hp} {vs : List V} {ds : List PyData} {Q : Addr → Hp → Prop} {E : XK} (hv : DqA K H vs ds) (hl : vs.length < sizeLine)
    (k : ∀ ps : List P2, ds = ps.map dP → Oks ps → ∀ (H' : Hp) (x : Addr) (u : List P2), Same H H' → SpAt C H' x u → (∀ y, covers u y ↔ covers ps y) → Q x H')
    (b : ds.all spanB = false → ∀ (H' : Hp) (dd tp : Addr), Same H H' → H' dd = some (.xd [(("value" : Str), .ref tp)]) → H' tp = some (.tup vs) → E (.ref CB) (some dd) H') :
    ∀ x dx, H x = Option.none → H dx = Option.none → dx ≠ x → spMade7 K C CB (V.ref x :: vs) (upd (upd H dx (.own x)) x (.ins C dx [])) (fun v H2 => v = .non ∧ Q x H2) E := by
  intro x dx nx ndx nex
  refine ⟨[.ref x], vs, rfl, rfl, Nat.le_of_lt hl, fun p np => ?_⟩
  have npx : p ≠ x := fun z => by rw [z, upd_same] at np; cases np
  have np1 : (upd H dx (.own x)) p = none := by rw [upd_ne npx] at np; exact np
  have npd : p ≠ dx := fun z => by rw [z, upd_same] at np1; cases np1
  have np0 : H p = none := by rw [upd_ne npd] at np1; exact np1
  have s1 : Same H (upd (upd (upd H dx (.own x)) x (.ins C dx [])) p (.tup vs)) := Same.mut (Same.mut (Same.new ndx) nx) np0
  refine ⟨x, dx, p, vs, ds, rfl, by rw [upd_ne npx.symm]; exact upd_same, upd_same, DqA.same s1 hv, by rw [← DqA.len hv]; exact hl, fun ps e hp o H' u kp sp cv => ⟨rfl, k ps e o H' x u (fun b ob q => ?_) sp cv⟩, fun bad H' dd s2 hdd => ?_⟩
  · have nbx : b ≠ x := fun z => by rw [z, nx] at q; cases q
    exact kp b ob nbx (s1 b ob q)
  · exact b bad H' dd p (s1.trans s2) hdd (s2 _ _ upd_same)
/-! ### more promises -/
def spMadeL (K : PySem.W.Frag) (C CB : Addr) : Sp := fun vs H Q E => ∃ (l : Addr) (xs : List V) (ds : List PyData), vs = [.ref l] ∧ H l = some (.lst xs) ∧ DqA K H xs ds ∧ xs.length ≤ 6 ∧
  (∀ ps : List P2, ds = ps.map dP → Oks ps → ∀ (H' : Hp) (x : Addr) (u : List P2), Same H H' → SpAt C H' x u → (∀ y, covers u y ↔ covers ps y) → Q (.ref x) H') ∧
  (ds.all spanB = false → ∀ (H' : Hp) (dd tp : Addr), Same H H' → H' dd = some (.xd [(("value" : Str), .ref tp)]) → H' tp = some (.tup xs) → E (.ref CB) (some dd) H')
def spMet (K : PySem.W.Frag) (C : Addr) : Sp := fun vs H Q _ => ∃ (l : Addr) (xs : List V) (ds : List PyData), vs = [.ref l] ∧ H l = some (.lst xs) ∧ DqA K H xs ds ∧ xs.length ≤ 6 ∧ PyData.showableAll ds = true ∧ PyData.depthAll ds ≤ 50 ∧ (PyData.tuple ds).shown.length ≤ sizeLine ∧
  (∀ ps : List P2, ds = ps.map dP → Oks ps → ∀ (H' : Hp) (t x : Addr) (u : List P2), Same H H' → H' t = some (.tup [.str "told", .ref x]) → SpAt C H' x u → (∀ y, covers u y ↔ covers ps y) → Q (.ref t) H') ∧
  (ds.all spanB = false → ∀ (H' : Hp) (t : Addr), Same H H' → H' t = some (.tup [.str "bad", .str (PyData.tuple ds).shown]) → Q (.ref t) H')
def spCoup (K : PySem.W.Frag) : Sp := fun vs H Q _ => ∃ (x : V) (d : PyData), vs = [x] ∧ Dq K H x d ∧ ∀ H', Same H H' → Q (.bl (spanB d)) H'
end S1

namespace S1
open PySem PySem.Spec PyProof.Rows L2 StX M1
theorem cnt_eq_keys {ps : List P2} {ks : List Int} (o : Oks ps) (n : ks.Nodup) (h : ∀ x, covers ps x ↔ x ∈ ks) : M1.cnt ps = ks.length := by
  refine Nat.le_antisymm (cnt_keys fun x c => (h x).mp c) ?_
  have e : M1.cnt ps = (((List.range mostN).filter fun n : Nat => mem ps (n : Int)).map fun n : Nat => (n : Int)).length := by
    rw [List.length_map]
    exact List.countP_eq_length_filter
  rw [e]
  refine sub_len n fun x m => ?_
  have c := (h x).mpr m
  have b := covers_in o c
  refine List.mem_map.mpr ⟨x.toNat, List.mem_filter.mpr ⟨List.mem_range.mpr ?_, ?_⟩, by omega⟩
  · have : (mostN : Int) = 1000000 := mostN_eq
    omega
  · rw [show ((x.toNat : Nat) : Int) = x by omega]
    exact mem_iff.mpr c
theorem dqA_ints {K : PySem.W.Frag} {H : Hp} : ∀ zs : List Int, DqA K H (zs.map V.int) (zs.map PyData.int)
  | [] => .nil
  | z :: r => .cons (.int z) (dqA_ints r)
theorem any_false {α : Type} : ∀ l : List α, ((l.map fun _ => false).any id) = false
  | [] => rfl
  | _ :: r => by rw [List.map_cons, List.any_cons, any_false r]; rfl
def spIsR (C : Addr) : Sp := fun vs H Q _ => ∃ (a d : Addr) (ps : List P2) (ks : List Int), vs = [.ref a, .ref d] ∧ SpAt C H a ps ∧ H d = some (.dK (setK ks)) ∧ ks.Nodup ∧ (∀ x ∈ ks, 0 ≤ x ∧ x < 1000000) ∧ ks.length ≤ 1000 ∧ (∀ x, covers ps x ↔ x ∈ ks) ∧ ∀ H', Same H H' → Q (.bl true) H'
/-- the heap without the pot -/
def off (p : Addr) (H : Hp) : Hp := fun b => if b = p then none else H b
theorem off_ne {p b : Addr} {H : Hp} (h : b ≠ p) : off p H b = H b := if_neg h
theorem off_same {p : Addr} {H H' : Hp} (b : But p H H') : Same (off p H) (off p H') := fun c o e => by
  by_cases h : c = p
  · rw [h] at e
    have : (none : Option HO) = some o := (if_pos rfl).symm.trans e
    cases this
  · rw [off_ne h] at e ⊢
    exact b c o h e
theorem off_in (p : Addr) (H : Hp) : Same (off p H) H := fun c o e => by
  by_cases h : c = p
  · rw [h] at e
    have : (none : Option HO) = some o := (if_pos rfl).symm.trans e
    cases this
  · rw [off_ne h] at e
    exact e
/-! ### the shown text holds code points alone -/
theorem sk_app (a b : Str) : PyData.strOk (a ++ b) = (PyData.strOk a && PyData.strOk b) := by
  show (a.cps ++ b.cps).all _ = _
  rw [Array.all_append]
  rfl
theorem sk_of (s : String) : PyData.strOk (Str.ofString s) = true := by
  rw [Str.ofString_eq_toList]
  show Array.all (s.toList.map Char.toNat).toArray _ = true
  rw [List.all_toArray, List.all_map, List.all_eq_true]
  intro c _
  have h := c.valid
  refine decide_eq_true ?_
  rcases h with h | ⟨_, h⟩
  · exact Nat.lt_of_lt_of_le h (by decide)
  · exact h
theorem sk_join {sep : Str} (h : PyData.strOk sep = true) : ∀ ts : List Str, (∀ t ∈ ts, PyData.strOk t = true) → PyData.strOk (Str.join sep ts) = true
  | [], _ => by
    show PyData.strOk Str.empty = true
    decide +kernel
  | [x], k => k x List.mem_cons_self
  | x :: y :: r, k => by
    show PyData.strOk (x ++ sep ++ Str.join sep (y :: r)) = true
    rw [sk_app, sk_app, k x List.mem_cons_self, h, sk_join h (y :: r) fun t m => k t (List.mem_cons_of_mem _ m)]
    rfl
theorem shownAll_mem : ∀ {ds : List PyData} {t : Str}, t ∈ PyData.shownAll ds → ∃ d ∈ ds, t = d.shown
  | [], t, m => by simp only [PyData.shownAll] at m; exact nomatch m
  | d :: r, t, m => by
    simp only [PyData.shownAll] at m
    rcases List.mem_cons.mp m with e | m
    · exact ⟨d, List.mem_cons_self, e⟩
    · obtain ⟨d', m', e⟩ := shownAll_mem m
      exact ⟨d', List.mem_cons_of_mem _ m', e⟩
theorem sk_tuple {ds : List PyData} (h : ∀ d ∈ ds, PyData.strOk d.shown = true) : PyData.strOk (PyData.tuple ds).shown = true := by
  rw [PyData.shown_tuple, sk_app, sk_app, sk_of, sk_join (sk_of _) _ fun t m => by obtain ⟨d, md, e⟩ := shownAll_mem m; rw [e]; exact h d md]
  rw [Bool.true_and, Bool.true_and]
  exact sk_of _
theorem sk_int (i : Int) : PyData.strOk (PyData.int i).shown = true := by
  rw [PyData.shown_int]
  exact sk_of _
/-- what odd values are -/
def OddD (d : PyData) (L : Nat) (D : Nat) : Prop := d.showable = true ∧ d.depth ≤ D ∧ d.shown.length ≤ L ∧ PyData.strOk d.shown = true
def oddDs : List PyData := [.none, .bool true, .bool false, .int 0, .int 1, .int (-1), .int (10 ^ 30), .str "", .str "x", .str "0", .tuple [], .list [], .dict [], .tuple [.int 0], .tuple [.int 0, .int 1], .list [.int 0, .int 1], .tuple [.int 1, .int 0], .tuple [.int 3, .int 3],
  .tuple [.int 0, .bool true], .tuple [.int (-1), .int 2], .tuple [.int 0, .int 1000000], .tuple [.int 0, .int 1000001], .tuple [.int 999999, .int 1000000], .tuple [.tuple [.int 0, .int 1]], .tuple [.int 0, .int 1, .int 2]]
theorem odd0 : (oddDs.all fun d => d.showable && decide (d.depth ≤ 2) && decide (d.shown.length ≤ 60) && PyData.strOk d.shown) = true := by decide +kernel
theorem odd_base {d : PyData} (m : d ∈ oddDs) : OddD d 60 2 := by
  have h := List.all_eq_true.mp odd0 d m
  rw [Bool.and_eq_true, Bool.and_eq_true, Bool.and_eq_true] at h
  exact ⟨h.1.1.1, of_decide_eq_true h.1.1.2, of_decide_eq_true h.1.2, h.2⟩
theorem odd_t1 {d : PyData} {L D : Nat} (h : OddD d L D) : OddD (.tuple [d]) (2 * L + 20) (D + 1) := by
  obtain ⟨a, b, c, sk⟩ := h
  refine ⟨by simp only [PyData.showable, PyData.showableAll, a, Bool.and_true], by simp only [PyData.depth, PyData.depthAll]; omega, ?_⟩
  have e : (PyData.tuple [d]).shown = ("(" : Str) ++ d.shown ++ (",)" : Str) := by simp only [PyData.shown, PyData.shownAll, tupleText]; rfl
  rw [e]
  refine ⟨?_, ?_⟩
  · rw [strLen_append, strLen_append, show ("(" : Str).length = 1 by decide +kernel, show (",)" : Str).length = 2 by decide +kernel]
    omega
  · simp only [sk_app, sk]
    decide +kernel
theorem odd_l1 {d : PyData} {L D : Nat} (h : OddD d L D) : OddD (.list [d]) (2 * L + 20) (D + 1) := by
  obtain ⟨a, b, c, sk⟩ := h
  refine ⟨by simp only [PyData.showable, PyData.showableAll, a, Bool.and_true], by simp only [PyData.depth, PyData.depthAll]; omega, ?_⟩
  have e : (PyData.list [d]).shown = ("[" : Str) ++ d.shown ++ ("]" : Str) := by rw [PyData.shown_list]; simp only [PyData.shownAll]; rfl
  rw [e]
  refine ⟨?_, ?_⟩
  · rw [strLen_append, strLen_append, show ("[" : Str).length = 1 by decide +kernel, show ("]" : Str).length = 1 by decide +kernel]
    omega
  · simp only [sk_app, sk]
    decide +kernel
theorem odd_d1 {d : PyData} {L D : Nat} (h : OddD d L D) : OddD (.dict [(.str "a", d)]) (2 * L + 20) (D + 1) := by
  obtain ⟨a, b, c, sk⟩ := h
  refine ⟨by simp only [PyData.showable, PyData.showableKv, a, Bool.and_true], by simp only [PyData.depth, PyData.depthKv]; omega, ?_⟩
  have e : (PyData.dict [(.str "a", d)]).shown = ("{" : Str) ++ ((PyData.str "a").shown ++ (": " : Str) ++ d.shown) ++ ("}" : Str) := by rw [PyData.shown_dict]; simp only [PyData.shownKv]; rfl
  rw [e]
  refine ⟨?_, ?_⟩
  · rw [strLen_append, strLen_append, strLen_append, strLen_append, show ("{" : Str).length = 1 by decide +kernel, show ("}" : Str).length = 1 by decide +kernel, show (": " : Str).length = 2 by decide +kernel, show (PyData.str "a").shown.length = 3 by decide +kernel]
    omega
  · simp only [sk_app, sk]
    decide +kernel
theorem odd_t2 {d : PyData} {L D : Nat} (h : OddD d L D) : OddD (.tuple [d, d]) (2 * L + 20) (D + 1) := by
  obtain ⟨a, b, c, sk⟩ := h
  refine ⟨by simp only [PyData.showable, PyData.showableAll, a, Bool.and_true], by simp only [PyData.depth, PyData.depthAll]; omega, ?_⟩
  have e : (PyData.tuple [d, d]).shown = ("(" : Str) ++ (d.shown ++ (", " : Str) ++ d.shown) ++ (")" : Str) := by simp only [PyData.shown, PyData.shownAll, tupleText]; rfl
  rw [e]
  refine ⟨?_, ?_⟩
  · rw [strLen_append, strLen_append, strLen_append, strLen_append, show ("(" : Str).length = 1 by decide +kernel, show (")" : Str).length = 1 by decide +kernel, show (", " : Str).length = 2 by decide +kernel]
    omega
  · simp only [sk_app, sk]
    decide +kernel
theorem odd_i1 {d : PyData} {L D : Nat} (h : OddD d L D) : OddD (.tuple [.int 1, d]) (2 * L + 20) (D + 1) := by
  obtain ⟨a, b, c, sk⟩ := h
  refine ⟨by simp only [PyData.showable, PyData.showableAll, a, Bool.and_true]; decide, by simp only [PyData.depth, PyData.depthAll]; omega, ?_⟩
  have e : (PyData.tuple [.int 1, d]).shown = ("(" : Str) ++ ((PyData.int 1).shown ++ (", " : Str) ++ d.shown) ++ (")" : Str) := by simp only [PyData.shown_tuple, PyData.shownAll]; rfl
  rw [e]
  refine ⟨?_, ?_⟩
  · rw [strLen_append, strLen_append, strLen_append, strLen_append, show ("(" : Str).length = 1 by decide +kernel, show (")" : Str).length = 1 by decide +kernel, show (", " : Str).length = 2 by decide +kernel, show (PyData.int 1).shown.length = 1 by decide +kernel]
    omega
  · simp only [sk_app, sk]
    decide +kernel
theorem OddD.mono {d : PyData} {L D L' D' : Nat} (h : OddD d L D) (a : L ≤ L') (b : D ≤ D') : OddD d L' D' := ⟨h.1, Nat.le_trans h.2.1 b, Nat.le_trans h.2.2.1 a, h.2.2.2⟩
def oddL : Nat → Nat
  | 0 => 60
  | n + 1 => 2 * oddL n + 20
theorem oddL_mono {n : Nat} : oddL n ≤ oddL (n + 1) := by show oddL n ≤ 2 * oddL n + 20; omega
def spOdd (K : PySem.W.Frag) : Sp := fun vs H Q _ => ∃ (p : Addr) (B : Int), vs = [.ref p] ∧ PotAt H p B ∧ B ≤ 90000 ∧ ∀ (H' : Hp) (x : V) (d : PyData), But p H H' → PotAt H' p (B + 20) → Dq K (off p H') x d → OddD d 60000 12 → Q x H'
def spPlaces7 : Sp := fun vs H Q _ => ∃ (l : Addr) (ps : List P2), vs = [.ref l] ∧ LstP H l ps ∧ Oks ps ∧ (∀ p ∈ ps, p.2 - p.1 ≤ 99) ∧ ps.length ≤ 6 ∧
  ∀ (H' : Hp) (d : Addr) (ks : List Int), Same H H' → H d = none → H' d = some (.dK (setK ks)) → ks.Nodup → (∀ x, x ∈ ks ↔ covers ps x) → ks.length ≤ 594 → Q (.ref d) H'
def spDrawn7 : Sp := fun vs H Q _ => ∃ (p : Addr) (B : Int), vs = [.ref p, .int 5, .int 20] ∧ PotAt H p B ∧ B ≤ 90000 ∧
  ∀ (H' : Hp) (l : Addr) (ps : List P2), But p H H' → PotAt H' p (B + 20) → l ≠ p → H l = none → LstP H' l ps → Oks ps → (∀ q ∈ ps, q.2 - q.1 ≤ 9) → ps.length ≤ 5 → Q (.ref l) H'
/-- [f(x) for x in xs], f of the data alone, new objects may come -/
theorem lc_dqs2 {K : PySem.W.Frag} {J : It} {H0 H : Hp} {D : Addr} {xs : List V} {ds : List PyData} {v : PyData → V} {B : V → Hp → (Hp → Prop) → Prop} {Qd : Hp → Prop} (wk : Walks J H0 xs) (hp : DqA K H0 xs ds) (s : Same H0 H) (nD : H D = none) (hz : xs.length ≤ sizeLine)
    (hB : ∀ (H' : Hp) (x : V) (d : PyData) (Nx : Hp → Prop), d ∈ ds → Same H0 H' → Dq K H' x d → (∀ H'' : Hp, Same H' H'' → ∃ acc, H'' D = some (.lst acc) ∧ acc.length < sizeLine ∧ Nx (upd H'' D (.lst (acc ++ [v d])))) → B x H' Nx)
    (hd : ∀ H', Same H0 H' → Same H H' → H' D = some (.lst (ds.map v)) → Qd H') :
    ∃ W : Nat → Nat → Hp → Prop, (∃ m, W 0 m (upd H D (.lst []))) ∧ ∀ i m H, W i m H →
      (J.stop i H ∧ Qd H) ∨ (J.go i H ∧ ∃ Nx : Hp → Prop, (∀ H', Nx H' → ∃ m', m' < m ∧ W (i + 1) m' H') ∧ ∀ x H', J.yld i H x H' → B x H' Nx) := by
  have l := DqA.len hp
  refine lc_it (n := xs.length) (fun i H' => Same H0 H' ∧ Same H H' ∧ H' D = some (.lst ((ds.take i).map v))) ⟨Same.mut s (s.free nD), Same.new nD, upd_same⟩ (fun i H' hi q => wk.go _ _ q.1 hi) (fun H' q => wk.stop _ q.1) ?_ (fun H' q => hd _ q.1 q.2.1 (by have e := q.2.2; rw [l, List.take_length] at e; exact e))
  rintro i H' x H2 hi ⟨s1, s2, e⟩ y
  obtain ⟨rfl, hx⟩ := wk.yld _ _ _ _ s1 y
  obtain ⟨d, hd2, q⟩ := DqA.get (DqA.same s1 hp) hx
  refine hB _ _ d _ (List.mem_of_getElem? hd2) s1 q fun H3 s3 => ⟨_, s3 _ _ e, ?_, Same.mut (s1.trans s3) (s.free nD), Same.mut (s2.trans s3) nD, ?_⟩
  · rw [List.length_map, List.length_take]
    omega
  · rw [upd_same, List.take_add_one, hd2, List.map_append]
    rfl
theorem DqA.one {K : PySem.W.Frag} {H : Hp} {x : V} {d : PyData} (h : Dq K H x d) : DqA K H [x] [d] := .cons h .nil
theorem PotAt.ne {H : Hp} {p t : Addr} {B : Int} (h : PotAt H p B) (n : H t = none) : t ≠ p := by
  obtain ⟨x, y, z, e, _⟩ := h
  exact (ne_of_none e n).symm
/-- the row of values grows by a new object -/
theorem grow {K : PySem.W.Frag} {H : Hp} {p t : Addr} {o : HO} {xs : List V} {ds : List PyData} {d : PyData} {B : Int} (h : DqA K (off p H) xs ds) (pot : PotAt H p B) (nt : H t = none) (dq : (off p (upd H t o)) t = some o → Dq K (off p (upd H t o)) (.ref t) d) : DqA K (off p (upd H t o)) (xs ++ [.ref t]) (ds ++ [d]) := by
  refine DqA.app (DqA.same (off_same (Same.but (Same.new nt) p)) h) (DqA.one (dq ?_))
  rw [off_ne (pot.ne nt)]
  exact upd_same
theorem stay {K : PySem.W.Frag} {H : Hp} {p t : Addr} {o : HO} {x : V} {d : PyData} (h : Dq K (off p H) x d) (nt : H t = none) : Dq K (off p (upd H t o)) x d := Dq.same (off_same (Same.but (Same.new nt) p)) h
theorem oddL9 : ∀ i, i ≤ 9 → oddL i ≤ 60000 := by decide
end S1

namespace S1
open PySem PySem.Spec PyProof.Rows L2 StX M1
theorem small_log {i : Int} (h0 : 0 ≤ i) (h1 : i ≤ 1000000) : i.natAbs.log2 < 1920 := by
  have h : i.natAbs < 2 ^ 1920 := Nat.lt_of_le_of_lt (show i.natAbs ≤ 1000000 by omega) (by decide +kernel)
  by_cases z : i.natAbs = 0
  · rw [z]
    decide
  · exact (Nat.log2_lt z).mpr h
theorem int_len {i : Int} (h : i.natAbs.log2 < 1920) : (PyData.int i).shown.length ≤ 1921 := by
  rw [PyData.shown_int]
  exact int_text_len_1921 h
theorem odd_dP {p : P2} (o : Ok p) : OddD (dP p) 60000 12 := by
  obtain ⟨a, b⟩ := p
  obtain ⟨o1, o2, o3⟩ := o
  have o1 : 0 ≤ a := o1
  have o2 : a < b := o2
  have o3 : b ≤ 1000000 := o3
  have l1 := small_log (i := a) o1 (by omega)
  have l2 := small_log (i := b) (by omega) o3
  refine ⟨?_, ?_, ?_, sk_tuple fun d m => ?_⟩
  · simp only [dP, PyData.showable, PyData.showableAll, decide_eq_true l1, decide_eq_true l2, Bool.and_self]
  · simp only [dP, PyData.depth, PyData.depthAll]
    omega
  · have h1 := int_len l1
    have h2 := int_len l2
    have h3 := tupleText_len_le (PyData.shownAll [.int a, .int b])
    have e : ((PyData.shownAll [.int a, .int b]).map (·.length)).sum = (PyData.int a).shown.length + ((PyData.int b).shown.length + 0) := by simp only [PyData.shownAll]; rfl
    have e2 : (PyData.shownAll [.int a, .int b]).length = 2 := by simp only [PyData.shownAll]; rfl
    have e3 : (dP (a, b)).shown = tupleText (PyData.shownAll [.int a, .int b]) := by simp only [dP, PyData.shown]
    rw [e3]
    omega
  · rcases List.mem_cons.mp m with rfl | m
    · exact sk_int _
    rcases List.mem_cons.mp m with rfl | m
    · exact sk_int _
    cases m
def Fits (ds : List PyData) : Prop := ∀ d ∈ ds, OddD d 60000 12
theorem fits_show : ∀ {ds : List PyData}, Fits ds → PyData.showableAll ds = true ∧ PyData.depthAll ds ≤ 12 ∧ ((PyData.shownAll ds).map (·.length)).sum ≤ 60000 * ds.length
  | [], _ => ⟨by simp only [PyData.showableAll], by simp only [PyData.depthAll]; omega, by simp only [PyData.shownAll]; exact Nat.le_refl _⟩
  | d :: r, h => by
    obtain ⟨a, b, c⟩ := fits_show (ds := r) fun d m => h d (List.mem_cons_of_mem _ m)
    obtain ⟨x, y, z, _⟩ := h d List.mem_cons_self
    refine ⟨by simp only [PyData.showableAll, x, a, Bool.and_self], by simp only [PyData.depthAll]; omega, ?_⟩
    simp only [PyData.shownAll, List.map_cons, List.sum_cons, List.length_cons]
    omega
theorem fits_tuple {ds : List PyData} (h : Fits ds) (l : ds.length ≤ 6) : (PyData.tuple ds).shown.length ≤ sizeLine := by
  have h1 := (fits_show h).2.2
  have h2 := tupleText_len_le (PyData.shownAll ds)
  have h3 := PyData.shownAll_length ds
  have e : (PyData.tuple ds).shown = tupleText (PyData.shownAll ds) := by simp only [PyData.shown]
  have z : 60000 * 6 + 100 ≤ sizeLine := by decide
  rw [e]
  omega
theorem fits_list {ds : List PyData} (h : Fits ds) (l : ds.length ≤ 6) : (PyData.list ds).shown.length ≤ sizeLine := by
  have h1 := (fits_show h).2.2
  have h2 := listText_len_le (PyData.shownAll ds)
  have h3 := PyData.shownAll_length ds
  have e : (PyData.list ds).shown = listText (PyData.shownAll ds) := by simp only [PyData.shown]
  have z : 60000 * 6 + 100 ≤ sizeLine := by decide
  rw [e]
  omega
theorem fits_ok {ds : List PyData} (h : Fits ds) : PyData.strOk (PyData.tuple ds).shown = true := sk_tuple fun d m => (h d m).2.2.2
theorem fits_pairs {ps : List P2} (o : Oks ps) : Fits (ps.map dP) := fun d m => by
  obtain ⟨p, mp, rfl⟩ := List.mem_map.mp m
  exact odd_dP (o p mp)
theorem shaped_bad {t : Str} (h : PyData.strOk t = true) : SeqAt.shaped (.tuple [.str "bad", .str t]) = true := by
  have e1 : PyData.canLay0 (.tuple [.str "bad", .str t]) = true := by
    simp only [PyData.canLay0, PyData.canLayAll0, h, show PyData.strOk ("bad" : Str) = true by decide +kernel, Bool.and_self]
  have e2 : PyData.depth (.tuple [.str "bad", .str t]) ≤ 1 := by
    simp only [PyData.depth, PyData.depthAll]
    omega
  show (PyData.canLay0 _ && decide (PyData.depth _ ≤ 64)) = true
  rw [e1, Bool.true_and]
  exact decide_eq_true (by omega)
theorem eqv_bad (t : Str) : PyData.eqv (.tuple [.str "bad", .str t]) (.tuple [.str "bad", .str t]) = true := by
  simp only [PyData.eqv, PyData.eqvAll, beq_self_eq_true, Bool.and_self]
theorem tSeq_any {c : TT} {t u b : TS} {D : Ends} {σ : L2.St} {H : Hp} (P : L2.St → Hp → Prop) (h : ∀ D' : Ends, (∀ σ' H', P σ' H' → D'.nx σ' H') → tIfS c t u D' σ H) (k : ∀ σ' H', P σ' H' → b D σ' H') : tSeq (tIfS c t u) b D σ H := h { D with nx := b D } k
theorem tSeq_anyN {c : TT} {t u b : TS} {D : Ends} {σ : L2.St} {H : Hp} {i : Nat} {v : V} (P : L2.St → Hp → Prop) (h : ∀ D' : Ends, (∀ σ' H', P σ' H' → D'.nx σ' H') → tIfS c t u D' (σ.set i (some v)) H) (k : ∀ σ' H', P σ' H' → b D σ' H') : gName i v σ H (tSeq (tIfS c t u) b D) := h { D with nx := b D } k
theorem cut_take (xs : List V) (k : Nat) (h : k ≤ xs.length) : cutV xs none (some (k : Int)) = xs.take k := by
  unfold cutV
  rw [HT.sIx_none, HT.sIx_nat, Nat.min_eq_left h, List.drop_zero, Nat.sub_zero]
theorem cut_drop (xs : List V) (k : Nat) (h : k ≤ xs.length) : cutV xs (some (k : Int)) none = xs.drop k := by
  unfold cutV
  rw [HT.sIx_none, HT.sIx_nat, Nat.min_eq_left h]
  exact List.take_of_length_le (by rw [List.length_drop]; exact Nat.le_refl _)
theorem DqA.take {K : PySem.W.Frag} {H : Hp} : ∀ {xs : List V} {ds : List PyData} (k : Nat), DqA K H xs ds → DqA K H (xs.take k) (ds.take k)
  | _, _, 0, _ => .nil
  | _, _, _ + 1, .nil => .nil
  | _, _, k + 1, .cons h t => .cons h (DqA.take k t)
theorem DqA.drop {K : PySem.W.Frag} {H : Hp} : ∀ {xs : List V} {ds : List PyData} (k : Nat), DqA K H xs ds → DqA K H (xs.drop k) (ds.drop k)
  | _, _, 0, h => h
  | _, _, _ + 1, .nil => .nil
  | _, _, k + 1, .cons _ t => DqA.drop k t
theorem off_tups {H : Hp} {p : Addr} {B : Int} (h : PotAt H p B) : TupsStay H (off p H) := fun b xs e => by
  obtain ⟨x, y, z, q, _⟩ := h
  rw [off_ne (fun c => by rw [c, q] at e; cases e)]
  exact e
def spRight7 : Sp := fun vs H Q _ => ∃ p : Addr, vs = [.ref p] ∧ PotAt H p 0 ∧ ∀ H', But p H H' → Q (.bl true) H'
theorem pairs_of {K : PySem.W.Frag} {H : Hp} : ∀ {xs : List V} {ps : List P2}, DqA K H xs (ps.map dP) → PairsV H xs ps
  | _, [], .nil => .nil
  | _, p :: r, .cons h t => by
    refine .cons ?_ (pairs_of t)
    unfold dP at h
    cases h with
    | tup ht ha =>
      cases ha with
      | cons h1 r1 =>
        cases r1 with
        | cons h2 r2 =>
          cases r2
          cases h1
          cases h2
          exact ⟨_, rfl, ht⟩
end S1

namespace S1
open PySem PySem.Spec PyProof.Rows L2 StX M1
def top (i : Nat) : Stmt := PySem.Challenge.pw_oneedition_k37_spans_of_any_values.main.body.getD i (.Pass ⟨0, 0, 0, 0⟩)
abbrev s_is_integer : Stmt := top 4
abbrev N_is_integer : List Str := ["value"]
theorem sc_is_integer : FnScope N_is_integer ["value"] (defScope s_is_integer) := ⟨rfl, rfl, rfl, by decide +kernel, rfl, by decide +kernel, by decide +kernel⟩
abbrev s_is_span : Stmt := top 8
abbrev N_is_span : List Str := ["value", "start", "stop"]
theorem sc_is_span : FnScope N_is_span ["value"] (defScope s_is_span) := ⟨rfl, rfl, rfl, by decide +kernel, rfl, by decide +kernel, by decide +kernel⟩
abbrev s_united : Stmt := top 9
abbrev N_united : List Str := ["pairs", "found", "first", "last", "start", "stop"]
theorem sc_united : FnScope N_united ["pairs"] (defScope s_united) := ⟨rfl, rfl, rfl, by decide +kernel, rfl, by decide +kernel, by decide +kernel⟩
abbrev s_shared : Stmt := top 10
abbrev N_shared : List Str := ["one", "other", "found", "start", "stop", "first", "last"]
theorem sc_shared : FnScope N_shared ["one", "other"] (defScope s_shared) := ⟨rfl, rfl, rfl, by decide +kernel, rfl, by decide +kernel, by decide +kernel⟩
abbrev s_rest_of : Stmt := top 11
abbrev N_rest_of : List Str := ["pairs", "starts", "start", "stop", "stops"]
theorem sc_rest_of : FnScope N_rest_of ["pairs"] (defScope s_rest_of) := ⟨rfl, rfl, rfl, by decide +kernel, rfl, by decide +kernel, by decide +kernel⟩
abbrev s_Spans_init : Stmt := inClass (top 12) 0
abbrev N_Spans_init : List Str := ["self", "pairs", "pair", "start", "stop"]
theorem sc_Spans_init : FnScope N_Spans_init ["self", "pairs"] (defScope s_Spans_init) := ⟨rfl, rfl, rfl, by decide +kernel, rfl, by decide +kernel, by decide +kernel⟩
abbrev s_Spans_and : Stmt := inClass (top 12) 1
abbrev N_Spans_and : List Str := ["self", "other", "pairs"]
theorem sc_Spans_and : FnScope N_Spans_and ["self", "other"] (defScope s_Spans_and) := ⟨rfl, rfl, rfl, by decide +kernel, rfl, by decide +kernel, by decide +kernel⟩
abbrev s_Spans_or : Stmt := inClass (top 12) 2
abbrev N_Spans_or : List Str := ["self", "other"]
theorem sc_Spans_or : FnScope N_Spans_or ["self", "other"] (defScope s_Spans_or) := ⟨rfl, rfl, rfl, by decide +kernel, rfl, by decide +kernel, by decide +kernel⟩
abbrev s_Spans_sub : Stmt := inClass (top 12) 3
abbrev N_Spans_sub : List Str := ["self", "other", "pairs"]
theorem sc_Spans_sub : FnScope N_Spans_sub ["self", "other"] (defScope s_Spans_sub) := ⟨rfl, rfl, rfl, by decide +kernel, rfl, by decide +kernel, by decide +kernel⟩
abbrev s_Spans_contains : Stmt := inClass (top 12) 4
abbrev N_Spans_contains : List Str := ["self", "position", "start", "stop"]
theorem sc_Spans_contains : FnScope N_Spans_contains ["self", "position"] (defScope s_Spans_contains) := ⟨rfl, rfl, rfl, by decide +kernel, rfl, by decide +kernel, by decide +kernel⟩
abbrev s_Spans_len : Stmt := inClass (top 12) 5
abbrev N_Spans_len : List Str := ["self"]
theorem sc_Spans_len : FnScope N_Spans_len ["self"] (defScope s_Spans_len) := ⟨rfl, rfl, rfl, by decide +kernel, rfl, by decide +kernel, by decide +kernel⟩
abbrev s_Spans_eq : Stmt := inClass (top 12) 6
abbrev N_Spans_eq : List Str := ["self", "other"]
theorem sc_Spans_eq : FnScope N_Spans_eq ["self", "other"] (defScope s_Spans_eq) := ⟨rfl, rfl, rfl, by decide +kernel, rfl, by decide +kernel, by decide +kernel⟩
abbrev s_law_pot : Stmt := top 14
abbrev N_law_pot : List Str := ["_law_script", "_law_k", "_law_cell", "_law_own"]
theorem sc_law_pot : FnScope N_law_pot ["_law_script", "_law_k"] (defScope s_law_pot) := ⟨rfl, rfl, rfl, by decide +kernel, rfl, by decide +kernel, by decide +kernel⟩
abbrev s_law_draw : Stmt := top 15
abbrev N_law_draw : List Str := ["_law_pot_here", "_law_many", "_law_digit", "_law_prime", "_law_made_here"]
theorem sc_law_draw : FnScope N_law_draw ["_law_pot_here", "_law_many"] (defScope s_law_draw) := ⟨rfl, rfl, rfl, by decide +kernel, rfl, by decide +kernel, by decide +kernel⟩
abbrev s_law_any : Stmt := top 16
abbrev N_law_any : List Str := ["_law_pot_here", "_law_items"]
theorem sc_law_any : FnScope N_law_any ["_law_pot_here", "_law_items"] (defScope s_law_any) := ⟨rfl, rfl, rfl, by decide +kernel, rfl, by decide +kernel, by decide +kernel⟩
abbrev s_law_places : Stmt := top 17
abbrev N_law_places : List Str := ["_law_couples_here", "_law_found", "_law_start", "_law_stop", "_law_spot"]
theorem sc_law_places : FnScope N_law_places ["_law_couples_here"] (defScope s_law_places) := ⟨rfl, rfl, rfl, by decide +kernel, rfl, by decide +kernel, by decide +kernel⟩
abbrev s_law_couples : Stmt := top 18
abbrev N_law_couples : List Str := ["_law_places_here", "_law_found", "_law_spot"]
theorem sc_law_couples : FnScope N_law_couples ["_law_places_here"] (defScope s_law_couples) := ⟨rfl, rfl, rfl, by decide +kernel, rfl, by decide +kernel, by decide +kernel⟩
abbrev s_law_drawn : Stmt := top 19
abbrev N_law_drawn : List Str := ["_law_pot_here", "_law_most", "_law_wide", "_law_base", "_law_found", "_law_turn", "_law_start"]
theorem sc_law_drawn : FnScope N_law_drawn ["_law_pot_here", "_law_most", "_law_wide"] (defScope s_law_drawn) := ⟨rfl, rfl, rfl, by decide +kernel, rfl, by decide +kernel, by decide +kernel⟩
abbrev s_law_odd : Stmt := top 20
abbrev N_law_odd : List Str := ["_law_pot_here", "_law_some", "_law_found", "_law_turn"]
theorem sc_law_odd : FnScope N_law_odd ["_law_pot_here"] (defScope s_law_odd) := ⟨rfl, rfl, rfl, by decide +kernel, rfl, by decide +kernel, by decide +kernel⟩
abbrev s_law_is_couple : Stmt := top 21
abbrev N_law_is_couple : List Str := ["_law_thing", "_law_one"]
theorem sc_law_is_couple : FnScope N_law_is_couple ["_law_thing"] (defScope s_law_is_couple) := ⟨rfl, rfl, rfl, by decide +kernel, rfl, by decide +kernel, by decide +kernel⟩
abbrev s_law_made : Stmt := top 22
abbrev N_law_made : List Str := ["_law_some"]
theorem sc_law_made : FnScope N_law_made ["_law_some"] (defScope s_law_made) := ⟨rfl, rfl, rfl, by decide +kernel, rfl, by decide +kernel, by decide +kernel⟩
abbrev s_law_met : Stmt := top 23
abbrev N_law_met : List Str := ["_law_some", "_law_caught", "_law_told", "error", "_law_is_due"]
theorem sc_law_met : FnScope N_law_met ["_law_some"] (defScope s_law_met) := ⟨rfl, rfl, rfl, by decide +kernel, rfl, by decide +kernel, by decide +kernel⟩
abbrev s_law_is_right : Stmt := top 24
abbrev N_law_is_right : List Str := ["_law_spans", "_law_places_here", "_law_near", "_law_start", "_law_stop", "_law_spot", "_law_thing"]
theorem sc_law_is_right : FnScope N_law_is_right ["_law_spans", "_law_places_here"] (defScope s_law_is_right) := ⟨rfl, rfl, rfl, by decide +kernel, rfl, by decide +kernel, by decide +kernel⟩
abbrev s_law_right : Stmt := top 25
abbrev N_law_right : List Str := ["_law_pot_here", "_law_turn", "_law_some", "_law_spot", "_law_kept", "_law_told", "_law_thing", "_law_start", "_law_stop"]
theorem sc_law_right : FnScope N_law_right ["_law_pot_here"] (defScope s_law_right) := ⟨rfl, rfl, rfl, by decide +kernel, rfl, by decide +kernel, by decide +kernel⟩
abbrev s_law : Stmt := top 26
abbrev N_law : List Str := ["_law_script", "_law_k"]
theorem sc_law : FnScope N_law ["_law_script"] (defScope s_law) := ⟨rfl, rfl, rfl, by decide +kernel, rfl, by decide +kernel, by decide +kernel⟩
section
variable {P : Program} {w : World} {K : PySem.W.Frag} {mg : Str → Option Value} {base : Heap} {C fI CB CK fB : Addr}
theorem ok_is_integer (T : Tx7 P K mg C CB CK fB)    {f : Addr} {fd : FuncData} (F : FunD K "is_integer" "is_integer" (defArgs s_is_integer) (defBody s_is_integer) (defScope s_is_integer) [] [] f fd) : FnOk P w K mg base CX0 1 f fd ["value"] (spInt7 K) := by
  refine F.ok sc_is_integer (fun vs H Q E h => ?_) (fun cdv A outer s H vs Q E hr h => ?_)
  · obtain ⟨x, d, rfl, _⟩ := h
    rfl
  · have nd := sc_is_integer.nd
    have hu := hu_of hr
    refine ⟨_, PSs.nox (pss_one (ps_ret (pe_and (pe_callB (id := "isinstance") (r := rIsi K) call_isi (by rfl) T.n_isinstance (by decide +kernel) (pa_cons (pv 0) (pa_cons (pe_bltn (by rfl) T.n_int (by decide +kernel) (u := .type "int") (v := .ty "int") rfl) pa_nil))) (pe_one (pe_not (pe_callB (id := "isinstance") (r := rIsi K) call_isi (by rfl) T.n_isinstance (by decide +kernel) (pa_cons (pv 0) (pa_cons (pe_bltn (by rfl) T.n_bool (by decide +kernel) (u := .type "bool") (v := .ty "bool") rfl) pa_nil)))))))), ?_⟩
    obtain ⟨x, d, rfl, hd, q⟩ := h
    refine ⟨_, rfl, _, _, _, _, isI d, rfl, .ty _, dq_ty hd, kit_int d, isI d, rfl, ?_⟩
    rw [← int_and d] at q
    by_cases e : isI d = true
    · rw [e] at q ⊢
      show if true = true then _ else _
      refine iteT ⟨_, rfl, _, _, _, _, isB d, rfl, .ty _, dq_ty hd, kit_bool d, isB d, rfl, ?_⟩
      rw [Bool.true_and] at q
      exact q
    · have e : isI d = false := by simpa using e
      rw [e] at q ⊢
      show if false = true then _ else _
      refine iteF ?_
      rw [Bool.false_and] at q
      exact q
theorem ok_is_span (T : Tx7 P K mg C CB CK fB)  {f_is_integer : Addr} {fd_is_integer : FuncData} (D_is_integer : Cal P w K mg base 1 "is_integer" ["value"] (spInt7 K) f_is_integer fd_is_integer)  {f : Addr} {fd : FuncData} (F : FunD K "is_span" "is_span" (defArgs s_is_span) (defBody s_is_span) (defScope s_is_span) [] [] f fd) : FnOk P w K mg base CX0 2 f fd ["value"] (spSpan7 K) := by
  refine F.ok sc_is_span (fun vs H Q E h => ?_) (fun cdv A outer s H vs Q E hr h => ?_)
  · obtain ⟨x, d, rfl, _⟩ := h
    rfl
  · have nd := sc_is_span.nd
    have hu := hu_of hr
    refine ⟨_, PSs.nox (pss_cons (ps_if (PW.pt (pw_or (pt_not (pt_val (pe_callB (id := "isinstance") (r := rIsi K) call_isi (by rfl) T.n_isinstance (by decide +kernel) (pa_cons (pv 0) (pa_cons (pe_bltn (by rfl) T.n_tuple (by decide +kernel) (u := .type "tuple") (v := .ty "tuple") rfl) pa_nil))))) (pw_or1 (pt_cmpR op_ne (pe_callB (id := "len") call_len (by rfl) T.n_len (by decide +kernel) (pa_cons (pv 0) pa_nil)) (pe_gi rfl T.g_PAIR) (nomark _))))) (pss_one (ps_ret pe_bl)) pss_nil)
      (pss_cons (ps_asg (pv 0) (pg_tup rfl (pgs_cons (pg_name (i := 1) nd rfl (by first | exact Or.inl rfl | exact Or.inr rfl)) (pgs_cons (pg_name (i := 2) nd rfl (by first | exact Or.inl rfl | exact Or.inr rfl)) pgs_nil))))
      (pss_one (ps_ret (pe_and (pe_c D_is_integer hr rfl (pa_cons (pv 1) pa_nil)) (pe_and (pe_c D_is_integer hr rfl (pa_cons (pv 2) pa_nil)) (pe_one (pe_chain3 op_le op_lt op_le pe_int (pv 1) (pv 2) (pe_gi rfl T.g_MOST))))))))), ?_⟩
    obtain ⟨x, d, rfl, hd, q⟩ := h
    have no : spanB d = false → Q (.bl false) H := fun e => by rw [e] at q; exact q
    refine ⟨_, rfl, _, _, _, _, isT d, rfl, .ty _, dq_ty hd, kit_tup d, isT d, rfl, ?_⟩
    by_cases e : isT d = true
    · rw [e]
      show if (!true) = true then _ else _
      refine iteNo ?_
      cases hd with
      | non => cases e
      | bl b => cases e
      | int i => cases e
      | str x => cases e
      | lst _ _ => cases e
      | dct _ _ _ => cases e
      | tup ht ha =>
        rename_i a xs ds
        have ll := DqA.len ha
        refine ⟨_, rfl, _, xs.length, rfl, .inr ⟨_, SqT.of ht, rfl⟩, rfl, _, rfl, ?_⟩
        by_cases c : xs.length = 2
        · rw [show (!decide (V.int (xs.length : Nat) = V.int 2)) = false by rw [c]; rfl]
          show if false = true then _ else _
          refine iteF ?_
          cases ha with
          | nil => cases c
          | cons h1 r =>
            cases r with
            | nil => cases c
            | cons h2 r =>
              cases r with
              | cons h3 r => simp at c
              | nil =>
                rename_i x1 d1 x2 d2
                refine ⟨_, rfl, a, _, rfl, SqT.of ht, rfl, _, _, rfl, _, _, rfl, rfl, ?_⟩
                have bad : intB d1 = false ∨ intB d2 = false → spanB (.tuple [d1, d2]) = false := fun z => by
                  unfold spanB
                  split
                  · rename_i a b heq
                    cases heq
                    rcases z with z | z <;> cases z
                  · rfl
                refine ⟨_, rfl, x1, d1, rfl, h1, intB d1, rfl, ?_⟩
                by_cases e1 : intB d1 = true
                · rw [e1]
                  show if true = true then _ else _
                  refine iteT ⟨_, rfl, x2, d2, rfl, h2, intB d2, rfl, ?_⟩
                  by_cases e2 : intB d2 = true
                  · rw [e2]
                    show if true = true then _ else _
                    refine iteT ?_
                    obtain ⟨i, rfl, rfl⟩ := dq_int h1 e1
                    obtain ⟨j, rfl, rfl⟩ := dq_int h2 e2
                    have qq : spanB (.tuple [.int i, .int j]) = decide (0 ≤ i ∧ i < j ∧ j ≤ 1000000) := rfl
                    rw [qq] at q
                    refine ⟨_, rfl, _, _, rfl, rfl, decide ((0 : Int) ≤ i), rfl, ?_⟩
                    by_cases c1 : 0 ≤ i
                    · rw [decide_eq_true c1]
                      refine iteT ⟨_, rfl, _, _, rfl, rfl, decide (i < j), rfl, ?_⟩
                      by_cases c2 : i < j
                      · rw [decide_eq_true c2]
                        refine iteT ⟨_, _, rfl, rfl, ?_⟩
                        rw [show decide (0 ≤ i ∧ i < j ∧ j ≤ 1000000) = decide (j ≤ 1000000) by by_cases c3 : j ≤ 1000000 <;> simp [c1, c2, c3]] at q
                        exact q
                      · rw [decide_eq_false c2]
                        refine iteF ?_
                        rw [decide_eq_false (fun z => c2 z.2.1)] at q
                        exact q
                    · rw [decide_eq_false c1]
                      refine iteF ?_
                      rw [decide_eq_false (fun z => c1 z.1)] at q
                      exact q
                  · have e2 : intB d2 = false := by simpa using e2
                    rw [e2]
                    show if false = true then _ else _
                    exact iteF (no (bad (.inr e2)))
                · have e1 : intB d1 = false := by simpa using e1
                  rw [e1]
                  show if false = true then _ else _
                  exact iteF (no (bad (.inl e1)))
        · rw [show (!decide (V.int (xs.length : Nat) = V.int 2)) = true by rw [decide_eq_false (fun z => c (by have := V.int.inj z; omega))]; rfl]
          show if true = true then _ else _
          refine iteT ?_
          refine no ?_
          unfold spanB
          split
          · rename_i a b heq
            cases heq
            exact absurd ll c
          · rfl
    · have e : isT d = false := by simpa using e
      rw [e]
      show if (!false) = true then _ else _
      refine iteT ?_
      refine iteT ?_
      refine no ?_
      cases d <;> first | rfl | cases e
theorem ok_united (T : Tx7 P K mg C CB CK fB)    {f : Addr} {fd : FuncData} (F : FunD K "united" "united" (defArgs s_united) (defBody s_united) (defScope s_united) [] [] f fd) : FnOk P w K mg base CX0 1 f fd ["pairs"] (spUnited K) := by
  refine F.ok sc_united (fun vs H Q E h => ?_) (fun cdv A outer s H vs Q E hr h => ?_)
  · obtain ⟨a, xs, ps, rfl, _⟩ := h
    rfl
  · have nd := sc_united.nd
    have hu := hu_of hr
    refine ⟨_, PSs.nox (pss_cons (ps_set (i := 1) nd rfl (by first | exact Or.inl rfl | exact Or.inr rfl) (pe_lst pa_nil))
      (pss_cons (ps_asg (pe_tup (pa_cons pe_int (pa_cons pe_int pa_nil))) (pg_tup rfl (pgs_cons (pg_name (i := 2) nd rfl (by first | exact Or.inl rfl | exact Or.inr rfl)) (pgs_cons (pg_name (i := 3) nd rfl (by first | exact Or.inl rfl | exact Or.inr rfl)) pgs_nil))))
      (pss_cons (ps_for PassesOwn.never rfl (pi_list (pe_callB (id := "sorted") cr_sortedPs (by rfl) T.n_sorted (by decide +kernel) (pa_cons (pv 0) pa_nil))) (pg_tup rfl (pgs_cons (pg_name (i := 4) nd rfl (by first | exact Or.inl rfl | exact Or.inr rfl)) (pgs_cons (pg_name (i := 5) nd rfl (by first | exact Or.inl rfl | exact Or.inr rfl)) pgs_nil))) (pss_one (ps_if (pt_cmpR op_gt (pv 4) (pv 3) (nomark _)) (pss_cons (ps_if (pt_cmpR op_lt (pv 2) (pv 3) (nomark _)) (pss_one (ps_expr (pe_bm PySem.F.plainAttrs_list PySem.F.slot_list_append PySem.F.type_list_append mt_append (pv 1) (pa_cons (pe_tup (pa_cons (pv 2) (pa_cons (pv 3) pa_nil))) pa_nil)))) pss_nil)
      (pss_one (ps_par (i := 2) (j := 3) (by rfl) nd rfl rfl (by decide) rfl rfl (pa_cons (pv 4) (pa_cons (pv 5) pa_nil)) (by rfl)))) (pss_one (ps_set (i := 3) nd rfl (by first | exact Or.inl rfl | exact Or.inr rfl) (pe_callB (id := "max") (call_max2 rfl) (by rfl) T.n_max (by decide +kernel) (pa_cons (pv 3) (pa_cons (pv 5) pa_nil))))))))
      (pss_cons (ps_if (pt_cmpR op_lt (pv 2) (pv 3) (nomark _)) (pss_one (ps_expr (pe_bm PySem.F.plainAttrs_list PySem.F.slot_list_append PySem.F.type_list_append mt_append (pv 1) (pa_cons (pe_tup (pa_cons (pv 2) (pa_cons (pv 3) pa_nil))) pa_nil)))) pss_nil)
      (pss_one (ps_ret (pe_tupleOf (by rfl) T.n_tuple (pv 1)))))))), ?_⟩
    obtain ⟨a, xs, ps, rfl, hs, hp, o, hz, k⟩ := h
    refine ⟨Nat.zero_le _, fun l nl => ?_⟩
    refine ⟨by decide, fun t0 n0 => ⟨t0, _, rfl, SqT.of upd_same, rfl, _, _, rfl, _, _, rfl, rfl, ?_⟩⟩
    have n0' : H t0 = none := by
      have q : t0 ≠ l := fun z => by rw [z, upd_same] at n0; cases n0
      rw [upd_ne q] at n0
      exact n0
    have lt0 : l ≠ t0 := fun z => by rw [← z, upd_same] at n0; cases n0
    have s1 : Same H (upd (upd H l (.lst [])) t0 (.tup [.int 0, .int 0])) := Same.mut (Same.new nl) n0'
    generalize hH2 : upd (upd H l (.lst [])) t0 (.tup [.int 0, .int 0]) = H2 at s1
    have hl2 : H2 l = some (.lst []) := by rw [← hH2, upd_ne lt0, upd_same]
    have hp2 := PairsV.stay (Same.tups s1) hp
    refine ⟨_, rfl, a, xs, keyOf H2, rfl, hs.same s1, PairsV.asks hp2, fun ys q srt stb nq => ?_⟩
    obtain ⟨hy, hperm⟩ := PairsV.perm hp2 stb.perm
    have w := srtd_fst srt
    generalize hls : ys.map (keyOf H2) = ls at hy hperm w
    have ol : Oks ls := fun p m => o p (hperm.mem_iff.mp m)
    have cl : ∀ x, covers ls x ↔ covers ps x := fun x => covers_perm hperm
    have nqH : H q = none := s1.free nq
    have nlq : l ≠ q := ne_of_none hl2 nq
    have s2 : Same H (upd H2 q (.lst ys)) := Same.mut s1 nqH
    have hy3 : PairsV (upd H2 q (.lst ys)) ys ls := PairsV.stay (Same.tups (Same.new nq)) hy
    refine ⟨q, rfl, ⟨_, SqL.of upd_same⟩, for_list (K := K) (a := q) (xs := ys) (fun i σ H' => ∃ (fs : List V) (v4 v5 : Option V), σ = [some (.ref a), some (.ref l), some (.int ((ls.take i).foldl unStep ⟨[], 0, 0⟩).first), some (.int ((ls.take i).foldl unStep ⟨[], 0, 0⟩).last), v4, v5] ∧ Same H H' ∧ H' q = some (.lst ys) ∧ PairsV H' ys ls ∧ H' l = some (.lst fs) ∧ PairsV H' fs ((ls.take i).foldl unStep ⟨[], 0, 0⟩).found ∧ fs.length ≤ i)
      ⟨[], none, none, rfl, s2, upd_same, hy3, (by rw [upd_ne nlq]; exact hl2), .nil, Nat.le_refl _⟩ (fun i σ H' _ ⟨_, _, _, _, _, e, _⟩ => SqL.of e) ?_ ?_⟩
    · rintro i x σ H' hi ⟨fs, v4, v5, rfl, s3, e3, y3, el, hf, lf⟩
      obtain ⟨⟨b, c⟩, hb, t, rfl, ht⟩ := PairsV.get y3 hi
      have stp := fold_take (f := unStep) (s := ⟨[], 0, 0⟩) hb
      have hlen : ys.length < sizeLine := by
        rw [stb.perm.length_eq, PairsV.len hp]
        exact hz
      have hi' : i < ys.length := (List.getElem?_eq_some_iff.mp hi).1
      generalize (ls.take i).foldl unStep ⟨[], 0, 0⟩ = st at stp hf
      refine ⟨t, _, rfl, SqT.of ht, rfl, _, _, rfl, _, _, rfl, rfl, ?_⟩
      refine ⟨_, rfl, _, rfl, _, _, rfl, rfl, _, rfl, ite2 (fun h1 => ?_) (fun h1 => ?_)⟩
      · have h1 : st.last < b := of_decide_eq_true h1
        have e1 : unStep st (b, c) = ⟨put st.found st.first st.last, b, c⟩ := if_pos h1
        refine ⟨_, rfl, _, rfl, _, _, rfl, rfl, _, rfl, ite2 (fun h2 => ?_) (fun h2 => ?_)⟩
        · have h2 : st.first < st.last := of_decide_eq_true h2
          refine ⟨_, rfl, .inl ⟨rfl, _, SqL.of el⟩, _, rfl, _, rfl, (by show 2 ≤ sizeLine; decide), fun t1 m1 => ?_⟩
          have l1 : l ≠ t1 := ne_of_none el m1
          have q1 : q ≠ t1 := ne_of_none e3 m1
          refine ⟨l, fs, _, rfl, rfl, (by rw [upd_ne l1]; exact el), by omega, ?_⟩
          refine ⟨_, rfl, _, rfl, _, _, rfl, fs ++ [.ref t1], _, _, (by rw [stp, e1]; rfl), ?_, ?_, ?_, upd_same, ?_, ?_⟩
          · exact Same.mut (Same.mut s3 (s3.free m1)) nl
          · rw [upd_ne nlq.symm, upd_ne q1]; exact e3
          · exact PairsV.stay (TupsStay.trans (Same.tups (Same.new m1)) (TupsStay.upd fun z => by rw [upd_ne l1, el]; intro w; cases w)) y3
          · rw [stp, e1]
            show PairsV _ _ (put st.found st.first st.last)
            unfold put
            rw [if_pos h2]
            refine PairsV.app (PairsV.stay (TupsStay.trans (Same.tups (Same.new m1)) (TupsStay.upd fun z => by rw [upd_ne l1, el]; intro w; cases w)) hf) (PairsV.one ?_)
            rw [upd_ne l1.symm, upd_same]
          · rw [List.length_append]; show _ + 1 ≤ _; omega
        · have h2 : ¬ st.first < st.last := fun z => h2 (decide_eq_true z)
          refine ⟨_, rfl, _, rfl, _, _, rfl, fs, _, _, (by rw [stp, e1]; rfl), s3, e3, y3, el, ?_, by omega⟩
          rw [stp, e1]
          show PairsV _ _ (put st.found st.first st.last)
          unfold put
          rw [if_neg h2]
          exact hf
      · have h1 : ¬ st.last < b := fun z => h1 (decide_eq_true z)
        have e1 : unStep st (b, c) = ⟨st.found, st.first, if c > st.last then c else st.last⟩ := if_neg h1
        refine ⟨_, rfl, _, rfl, _, _, rfl, fs, _, _, (by rw [stp, e1]; rfl), s3, e3, y3, el, ?_, by omega⟩
        rw [stp, e1]
        exact hf
    · rintro σ H' ⟨fs, v4, v5, rfl, s3, e3, y3, el, hf, lf⟩
      have hll : ys.length = ls.length := PairsV.len hy
      rw [hll, List.take_length] at hf ⊢
      obtain ⟨r1, r2, r3⟩ := unF_ok ol w
      unfold unF unEnd at r1 r2 r3
      generalize ls.foldl unStep ⟨[], 0, 0⟩ = st at hf r1 r2 r3
      refine ⟨_, rfl, _, rfl, _, _, rfl, rfl, _, rfl, ite2 (fun h2 => ?_) (fun h2 => ?_)⟩
      · have h2 : st.first < st.last := of_decide_eq_true h2
        refine ⟨_, rfl, .inl ⟨rfl, _, SqL.of el⟩, _, rfl, _, rfl, (by show 2 ≤ sizeLine; decide), fun t1 m1 => ?_⟩
        have l1 : l ≠ t1 := ne_of_none el m1
        refine ⟨l, fs, _, rfl, rfl, (by rw [upd_ne l1]; exact el), ?_, ?_⟩
        · rw [stb.perm.length_eq, PairsV.len hp] at lf
          omega
        · refine ⟨_, rfl, .inl ⟨l, _, rfl, SqL.of upd_same, fun q2 nq2 => ?_⟩⟩
          have s5 : Same H (upd (upd H' t1 (.tup [.int st.first, .int st.last])) l (.lst (fs ++ [.ref t1]))) := Same.mut (Same.mut s3 (s3.free m1)) nl
          refine k _ q2 (put st.found st.first st.last) (Same.mut s5 (s5.free nq2)) ⟨_, upd_same, ?_⟩ r1 r2 (fun x => (r3 x).trans (cl x))
          have z5 : PairsV (upd (upd H' t1 (.tup [.int st.first, .int st.last])) l (.lst (fs ++ [.ref t1]))) (fs ++ [.ref t1]) (st.found ++ [(st.first, st.last)]) := by
            refine PairsV.app (PairsV.stay (TupsStay.trans (Same.tups (Same.new m1)) (TupsStay.upd fun z => by rw [upd_ne l1, el]; intro w; cases w)) hf) (PairsV.one ?_)
            rw [upd_ne l1.symm, upd_same]
          unfold put
          rw [if_pos h2]
          exact PairsV.stay (Same.tups (Same.new nq2)) z5
      · have h2 : ¬ st.first < st.last := fun z => h2 (decide_eq_true z)
        refine ⟨_, rfl, .inl ⟨l, _, rfl, SqL.of el, fun q2 nq2 => ?_⟩⟩
        refine k _ q2 (put st.found st.first st.last) (Same.mut s3 (s3.free nq2)) ⟨_, upd_same, ?_⟩ r1 r2 (fun x => (r3 x).trans (cl x))
        unfold put
        rw [if_neg h2]
        exact PairsV.stay (Same.tups (Same.new nq2)) hf
theorem ok_Spans_init (T : Tx7 P K mg C CB CK fB)  {f_is_span : Addr} {fd_is_span : FuncData} (D_is_span : Cal P w K mg base 2 "is_span" ["value"] (spSpan7 K) f_is_span fd_is_span) {f_united : Addr} {fd_united : FuncData} (D_united : Cal P w K mg base 1 "united" ["pairs"] (spUnited K) f_united fd_united)  {f : Addr} {fd : FuncData} (F : FunD K "__init__" "Spans.__init__" (defArgs s_Spans_init) (defBody s_Spans_init) (defScope s_Spans_init) [] [] f fd) : FnR P w K mg base (L2.CX P w) 3 f (spMade7 K C CB) := by
  obtain ⟨oc, od, dV, kV, doc, pm, an, cdv, ct, osl, rfl, lk, hcd, hdv, _⟩ := F.ex
  obtain rfl : dV = .none := by
    rcases hdv with ⟨_, e⟩ | ⟨e, _⟩
    · exact e
    · exact absurd rfl e
  refine fn_star (ps := ["self"]) (pv := "pairs") lk hcd sc_Spans_init cxUp (bind_star1 (B := fun us => bindArgs (PySem.W.fnOf "__init__" "Spans.__init__" (defArgs s_Spans_init) (defBody s_Spans_init) (defScope s_Spans_init) .none kV doc pm an cdv ct) ⟨us, []⟩) (fun _ => rfl) (fun _ _ _ => rfl)) (fun A outer s H vs Q E hr h => ?_)
  · skip
    have nd := sc_Spans_init.nd
    have hu := hu_of hr
    have tk : Takes (cxOf (L2.CX P w) P w K mg base N_Spans_init "Spans.__init__" (defScope s_Spans_init) f cdv A outer s H E) (fun cls d _ H' => E cls d H') := takes_of rfl rfl rfl rfl
    have ps : Passes (L2.CX P w) (cxOf (L2.CX P w) P w K mg base N_Spans_init "Spans.__init__" (defScope s_Spans_init) f cdv A outer s H E) E := passes_call tk fun _ _ _ _ h => h
    refine ⟨_, (pss_cons (ps_if (pt_not (pt_val (pe_callB (id := "all") (cr_all rfl) (by rfl) T.n_all (by decide +kernel) (pa_cons (pe_lc (own := [("pair", 2)]) (g := (gName 2)) (tt := tYes) rfl nd (pi_tup (pv 1)) (blkOk_by (N := N_Spans_init) (sc := defScope s_Spans_init) (own := [("pair", 2)]) (by decide +kernel)) (fun _ _ _ _ _ => (pg_name (i := 2) nd rfl (by first | exact Or.inl rfl | exact Or.inr rfl))) (fun _ _ _ _ _ => pts_nil) (fun _ _ _ _ _ => (pe_c D_is_span hr rfl (pa_cons (pv 2) pa_nil)))) pa_nil)))) (pss_one (ps_raiseSup rfl T.sup T.c_Bad hr tk (pa_cons (pv 1) pa_nil))) pss_nil)
      (pss_cons (ps_fld (pv 0) (pe_c D_united hr rfl (pa_cons (pv 1) pa_nil)) rfl)
      (pss_one (ps_fld (pv 0) (pe_callB (id := "sum") (cr_sum rfl) (by rfl) T.n_sum (by decide +kernel) (pa_cons (pe_lc (own := [("start", 3), ("stop", 4)]) (g := (gTup K 2 (gCons (gName 3) (gCons (gName 4) gNil)))) (tt := tYes) rfl nd (pi_tup (pe_fld (pv 0) rfl)) (blkOk_by (N := N_Spans_init) (sc := defScope s_Spans_init) (own := [("start", 3), ("stop", 4)]) (by decide +kernel)) (fun _ _ _ _ _ => (pg_tup rfl (pgs_cons (pg_name (i := 3) nd rfl (by first | exact Or.inl rfl | exact Or.inr rfl)) (pgs_cons (pg_name (i := 4) nd rfl (by first | exact Or.inl rfl | exact Or.inr rfl)) pgs_nil)))) (fun _ _ _ _ _ => pts_nil) (fun _ _ _ _ _ => (pe_op op_sub (pv 4) (pv 3)))) pa_nil)) rfl)))), ?_⟩
    obtain ⟨p, dx, a, xs, ds, rfl, hp, ha, hv, hz, k, kb⟩ := h
    have lxp := DqA.len hv
    have eqT : SqT K H a xs := SqT.of ha
    refine ⟨_, rfl, a, rfl, ⟨_, eqT⟩, ?_⟩
    intro D nD
    refine lc_dqs (v := fun d => .bl (spanB d)) (Walks.tup eqT) hv (Same.refl H) nD (by omega) (fun H' x d Nx hm s hd hn => ⟨rfl, yesT ⟨_, rfl, x, d, rfl, hd, hn⟩⟩) fun H1 s1 _ e1 => ?_
    have hall : ((ds.map spanB).all id) = ds.all spanB := by rw [List.all_map]; rfl
    refine ⟨D, ds.map spanB, rfl, SqL.of (by rw [List.map_map]; exact e1), ds.all spanB, congrArg V.bl hall, ?_⟩
    by_cases c : ds.all spanB = true
    · rw [c]
      show if (!true) = true then _ else _
      refine iteNo ?_
      obtain ⟨ps, e, pv, o⟩ := dqA_pairs hv c
      have lps : xs.length = ps.length := PairsV.len pv
      have k := k ps e pv o
      refine ⟨_, rfl, a, xs, ps, rfl, .inr (SqT.of (s1 _ _ ha)), PairsV.stay (Same.tups s1) pv, o, by omega, fun H2 q u s12 ht can ok cov => ?_⟩
      obtain ⟨us, hq, hus⟩ := ht
      have hp2 := s12 _ _ (s1 _ _ hp)
      refine ⟨_, rfl, p, C, dx, [], rfl, hp2, T.cl, T.nP, (by show 0 < 1000; decide), ?_⟩
      have npq : q ≠ p := fun z => by rw [z, hp2] at hq; cases hq
      have ts3 : TupsStay H2 (upd H2 p (.ins C dx (putF "pairs" (.ref q) []))) := TupsStay.upd fun z => by rw [hp2]; intro w; cases w
      have hus3 := PairsV.stay ts3 hus
      have hq3 := ts3 _ _ hq
      have hp3 : (upd H2 p (.ins C dx (putF "pairs" (.ref q) []))) p = some (.ins C dx [("pairs", .ref q)]) := upd_same
      have k3 : ∀ b ob, b ≠ p → H b = some ob → (upd H2 p (.ins C dx (putF "pairs" (.ref q) []))) b = some ob := fun b ob nb e => by
        rw [upd_ne nb]
        exact s12 _ _ (s1 _ _ e)
      generalize upd H2 p (.ins C dx (putF "pairs" (.ref q) [])) = H3 at ts3 hus3 hq3 hp3 k3
      have lus := PairsV.len hus3
      have eq3 : SqT K H3 q us := SqT.of hq3
      refine ⟨_, rfl, p, C, dx, _, .ref q, rfl, hp3, T.cl, T.nP, (by rw [List.lookup_cons, beq_self_eq_true]), q, rfl, ⟨_, eq3⟩, ?_⟩
      intro D2 nD2
      have hz2 : us.length ≤ sizeLine := by
        rw [lus]
        have h1 := len_of can ok
        have h2 : mostN ≤ sizeLine := by decide
        exact Nat.le_trans h1 h2
      refine lc_pairs (v := fun p => .int (p.2 - p.1)) (Walks.tup eq3) hus3 (Same.refl H3) nD2 hz2 (fun H' t q Nx hq ht hn => ⟨t, _, rfl, SqT.of ht, rfl, _, _, rfl, _, _, rfl, rfl, rfl, yesT ⟨_, rfl, _, rfl, _, _, rfl, rfl, hn⟩⟩) fun H4 s4 _ e4 => ?_
      refine ⟨D2, u.map fun p => p.2 - p.1, rfl, SqL.of (by rw [List.map_map]; exact e4), ?_⟩
      refine ⟨_, rfl, p, C, dx, _, rfl, s4 _ _ hp3, T.cl, T.nM, (by show 1 < 1000; decide), ?_⟩
      refine k _ u (fun b ob nb e => ?_) ⟨⟨dx, q, ?_, us, ?_, ?_⟩, can, ok⟩ cov
      · rw [upd_ne nb]
        exact s4 _ _ (k3 _ _ nb e)
      · exact upd_same
      · rw [upd_ne npq]
        exact s4 _ _ hq3
      · exact PairsV.stay (TupsStay.trans (Same.tups s4) (TupsStay.upd fun z => by rw [s4 _ _ hp3]; intro w; cases w)) hus3
    · have c : ds.all spanB = false := by simpa using c
      rw [c]
      show if (!false) = true then _ else _
      refine iteT ?_
      refine ⟨_, rfl, _, rfl, fun dd ndd => ?_⟩
      exact kb c _ dd (s1.trans (Same.new ndd)) upd_same
theorem ok_Spans_contains (T : Tx7 P K mg C CB CK fB)  {f_is_integer : Addr} {fd_is_integer : FuncData} (D_is_integer : Cal P w K mg base 1 "is_integer" ["value"] (spInt7 K) f_is_integer fd_is_integer)  {f : Addr} {fd : FuncData} (F : FunD K "__contains__" "Spans.__contains__" (defArgs s_Spans_contains) (defBody s_Spans_contains) (defScope s_Spans_contains) [] [] f fd) : FnOk P w K mg base CX0 2 f fd ["self", "position"] (spIn7 K C) := by
  refine F.ok sc_Spans_contains (fun vs H Q E h => ?_) (fun cdv A outer s H vs Q E hr h => ?_)
  · obtain ⟨a, x, ps, d, rfl, _⟩ := h
    rfl
  · have nd := sc_Spans_contains.nd
    have hu := hu_of hr
    refine ⟨_, PSs.nox (pss_one (ps_ret (pe_and (pe_c D_is_integer hr rfl (pa_cons (pv 1) pa_nil)) (pe_one (pe_callB (id := "any") (cr_any rfl) (by rfl) T.n_any (by decide +kernel) (pa_cons (pe_lc (own := [("start", 2), ("stop", 3)]) (g := (gTup K 2 (gCons (gName 2) (gCons (gName 3) gNil)))) (tt := tYes) rfl nd (pi_tup (pe_fld (pv 0) rfl)) (blkOk_by (N := N_Spans_contains) (sc := defScope s_Spans_contains) (own := [("start", 2), ("stop", 3)]) (by decide +kernel)) (fun _ _ _ _ _ => (pg_tup rfl (pgs_cons (pg_name (i := 2) nd rfl (by first | exact Or.inl rfl | exact Or.inr rfl)) (pgs_cons (pg_name (i := 3) nd rfl (by first | exact Or.inl rfl | exact Or.inr rfl)) pgs_nil)))) (fun _ _ _ _ _ => pts_nil) (fun _ _ _ _ _ => (pe_chain op_le op_lt (pv 2) (pv 1) (pv 3)))) pa_nil)))))), ?_⟩
    obtain ⟨a, x, ps, d, rfl, ⟨⟨dx, ta, ha, xs, hta, hx⟩, ca, oa⟩, hd, k⟩ := h
    have lx := PairsV.len hx
    refine ⟨_, rfl, x, d, rfl, hd, intB d, rfl, ?_⟩
    by_cases e : intB d = true
    · rw [e]
      show if true = true then _ else _
      refine iteT ?_
      obtain ⟨i, rfl, rfl⟩ := dq_int hd e
      refine ⟨_, rfl, a, C, dx, _, _, rfl, ha, T.cl, T.nP, spF_pairs _ _, ta, rfl, ⟨_, SqT.of hta⟩, ?_⟩
      intro D nD
      have hz : xs.length ≤ sizeLine := by
        rw [lx]
        exact Nat.le_trans (len_of ca oa) (by decide)
      refine lc_pairs (v := fun p => .bl (decide (p.1 ≤ i) && decide (i < p.2))) (Walks.tup (SqT.of hta)) hx (Same.refl H) nD hz (fun H' t q Nx hq ht hn => ?_) fun H1 s1 _ e1 => ?_
      · refine ⟨t, _, rfl, SqT.of ht, rfl, _, _, rfl, _, _, rfl, rfl, rfl, yesT ?_⟩
        refine ⟨_, rfl, _, rfl, _, _, rfl, rfl, decide (q.1 ≤ i), rfl, ?_⟩
        by_cases c1 : q.1 ≤ i
        · rw [decide_eq_true c1] at hn ⊢
          refine iteT ⟨_, rfl, _, _, rfl, rfl, ?_⟩
          rw [Bool.true_and] at hn
          exact hn
        · rw [decide_eq_false c1] at hn ⊢
          refine iteF ?_
          rw [Bool.false_and] at hn
          exact hn
      · refine ⟨D, ps.map fun p => decide (p.1 ≤ i) && decide (i < p.2), rfl, SqL.of (by rw [List.map_map]; exact e1), ?_⟩
        refine k _ _ s1 ?_
        rw [List.any_map]
        have : (ps.any (id ∘ fun p => decide (p.1 ≤ i) && decide (i < p.2))) = mem ps i := rfl
        rw [this, mem_iff]
        exact ⟨fun h => ⟨i, rfl, h⟩, fun ⟨j, ej, h⟩ => by cases ej; exact h⟩
    · have e : intB d = false := by simpa using e
      rw [e]
      show if false = true then _ else _
      refine iteF (k _ false (Same.refl H) ⟨fun z => (nomatch z), fun ⟨j, ej, _⟩ => by rw [ej] at e; cases e⟩)
theorem ok_Spans_len (T : Tx7 P K mg C CB CK fB)    {f : Addr} {fd : FuncData} (F : FunD K "__len__" "Spans.__len__" (defArgs s_Spans_len) (defBody s_Spans_len) (defScope s_Spans_len) [] [] f fd) : FnOk P w K mg base CX0 1 f fd ["self"] (spLen C) := by
  refine F.ok sc_Spans_len (fun vs H Q E h => ?_) (fun cdv A outer s H vs Q E hr h => ?_)
  · obtain ⟨a, ps, rfl, _⟩ := h
    rfl
  · have nd := sc_Spans_len.nd
    have hu := hu_of hr
    refine ⟨_, PSs.nox (pss_one (ps_ret (pe_callB cr_lenRg (by rfl) T.n_len (by decide +kernel) (pa_cons (pe_callTy cr_range1 (by rfl) T.n_range (by decide +kernel) (pa_cons (pe_fld (pv 0) rfl) pa_nil)) pa_nil)))), ?_⟩
    obtain ⟨a, ps, rfl, ⟨⟨dx, ta, ha, xs, hta, hx⟩, ca, oa⟩, k⟩ := h
    refine ⟨_, rfl, a, C, dx, _, _, rfl, ha, T.cl, T.nM, spF_many _ _, _, rfl, fun p np => ?_⟩
    have h1 := total_nonneg oa
    have h2 := cnt_le ps
    have h3 := total_cnt ca oa
    have h4 : (mostN : Int) < 2 ^ 62 := by decide
    refine ⟨p, _, rfl, upd_same, h1, by omega, k _ (Same.new np)⟩
theorem ok_law_pot (T : Tx7 P K mg C CB CK fB)    {f : Addr} {fd : FuncData} (F : FunD K "_law_pot" "_law_pot" (defArgs s_law_pot) (defBody s_law_pot) (defScope s_law_pot) [] [] f fd) : FnOk P w K mg base CX0 1 f fd ["_law_script", "_law_k"] (spPot K) := by
  refine F.ok sc_law_pot (fun vs H Q E h => ?_) (fun cdv A outer s H vs Q E hr h => ?_)
  · obtain ⟨a, ns, k, rfl, _⟩ := h
    rfl
  · have nd := sc_law_pot.nd
    have hu := hu_of hr
    refine ⟨_, PSs.nox (pss_cons (ps_set (i := 2) nd rfl (by first | exact Or.inl rfl | exact Or.inr rfl) (pe_ifExp (pt_cmpR op_lt (pv 1) (pe_callB (id := "len") call_len (by rfl) T.n_len (by decide +kernel) (pa_cons (pv 0) pa_nil)) (nomark _)) (pe_ix ix_list (pv 0) (pv 1) (fun _ _ => rfl)) (pe_op op_add (pe_op op_mul pe_int (pv 1)) pe_int)))
      (pss_cons (ps_set (i := 3) nd rfl (by first | exact Or.inl rfl | exact Or.inr rfl) (pe_op op_mul (pe_op op_modN (pe_callTy call_int1 (by rfl) T.n_int (by decide +kernel) (pa_cons (pe_callB (id := "abs") call_abs (by rfl) T.n_abs (by decide +kernel) (pa_cons (pv 2) pa_nil)) pa_nil)) (pe_op op_powW (pe_op op_powW pe_int pe_int) pe_int)) (pe_callTy call_int1 (by rfl) T.n_int (by decide +kernel) (pa_cons (pe_cmpR op_ge (pe_callB (id := "abs") call_abs (by rfl) T.n_abs (by decide +kernel) (pa_cons (pv 2) pa_nil)) (pe_op op_powW pe_int pe_int) (nomark _)) pa_nil))))
      (pss_one (ps_ret (pe_lst (pa_cons (pv 3) (pa_cons (pe_op op_modN (pe_callTy call_int1 (by rfl) T.n_int (by decide +kernel) (pa_cons (pe_op op_add (pe_op op_add (pe_op op_mul (pe_op op_modN (pe_callTy call_int1 (by rfl) T.n_int (by decide +kernel) (pa_cons (pv 2) pa_nil)) pe_int) pe_int) (pe_op op_mul (pe_op op_mul pe_int (pv 1)) (pv 1))) pe_int) pa_nil)) pe_int) (pa_cons pe_int pa_nil)))))))), ?_⟩
    obtain ⟨a, ns, k, rfl, ha, k0, k1, q⟩ := h
    unfold tSeq tAsg
    refine tIf_any (fun v => ∃ c : Int, v = .int c) (fun R hR => ?_) ?_
    · refine ⟨_, rfl, _, rfl, _, _, rfl, .inl ⟨_, ha, rfl⟩, _, _, rfl, rfl, _, rfl, ite2 (fun h1 => ?_) (fun _ => ?_)⟩
      · have h1 : k < ((ns.map V.int).length : Int) := of_decide_eq_true h1
        obtain ⟨x, e, m⟩ := atI_nat k0 h1
        obtain ⟨c, _, rfl⟩ := List.mem_map.mp m
        exact ⟨_, rfl, _, rfl, a, _, k, _, rfl, rfl, ha, e, hR _ ⟨c, rfl⟩⟩
      · exact ⟨_, rfl, _, _, rfl, rfl, .inl (by omega), _, _, rfl, rfl, hR _ ⟨_, rfl⟩⟩
    · rintro v ⟨c, rfl⟩
      refine ⟨_, rfl, _, rfl, .inl ⟨_, rfl, ?_⟩⟩
      refine ⟨_, _, rfl, rfl, ⟨by decide, by decide +kernel⟩, _, _, rfl, rfl, ⟨by decide, by decide +kernel⟩, _, _, rfl, rfl, big_ne, ?_⟩
      refine ⟨_, rfl, _, rfl, _, _, rfl, rfl, ⟨by decide, by decide +kernel⟩, _, _, rfl, rfl, .inr ⟨_, rfl, ?_⟩⟩
      refine ⟨_, _, rfl, rfl, .inr (bit_in _), ?_⟩
      generalize Int.fmod _ _ * _ = X1
      refine ⟨_, rfl, _, rfl, .inl ⟨_, rfl, ?_⟩⟩
      refine ⟨_, _, rfl, rfl, (by show (2305843009213693951 : Int) ≠ 0; decide), _, _, rfl, rfl, .inr (by decide), ?_⟩
      refine ⟨_, rfl, _, _, rfl, rfl, .inl (by omega), _, rfl, _, _, rfl, rfl, .inl (by omega), _, _, rfl, rfl, _, _, rfl, rfl, .inl ⟨_, rfl, ?_⟩⟩
      refine ⟨_, _, rfl, rfl, (by show (2305843009213693921 : Int) ≠ 0; decide), ?_⟩
      refine ⟨by show 3 ≤ sizeLine; decide, fun l nl => ?_⟩
      have z := fmod_in (i := Int.fmod c 2305843009213693951 * 71993 + 9241 * k * k + 53) (n := 2305843009213693921) (by decide)
      exact q _ l nl (Same.new nl) ⟨_, _, 0, upd_same, z.1, z.2, Int.le_refl _, Int.le_refl _⟩
theorem ok_law_draw (T : Tx7 P K mg C CB CK fB)    {f : Addr} {fd : FuncData} (F : FunD K "_law_draw" "_law_draw" (defArgs s_law_draw) (defBody s_law_draw) (defScope s_law_draw) [] [] f fd) : FnOk P w K mg base CX0 1 f fd ["_law_pot_here", "_law_many"] (spDraw) := by
  refine F.ok sc_law_draw (fun vs H Q E h => ?_) (fun cdv A outer s H vs Q E hr h => ?_)
  · obtain ⟨p, n, B, rfl, _⟩ := h
    rfl
  · have nd := sc_law_draw.nd
    have hu := hu_of hr
    refine ⟨_, PSs.nox (pss_cons (ps_if (pt_cmpR op_gt (pe_ix ix_list (pv 0) pe_int (fun _ _ => rfl)) pe_int (nomark _)) (pss_cons (ps_set (i := 2) nd rfl (by first | exact Or.inl rfl | exact Or.inr rfl) (pe_op op_modN (pe_callTy call_int1 (by rfl) T.n_int (by decide +kernel) (pa_cons (pe_ix ix_list (pv 0) pe_int (fun _ _ => rfl)) pa_nil)) (pv 1)))
      (pss_cons (ps_asg (pe_op op_fdivN (pe_ix ix_list (pv 0) pe_int (fun _ _ => rfl)) (pv 1)) (pg_sub (pv 0) pe_int set_list))
      (pss_one (ps_ret (pv 2))))) pss_nil)
      (pss_cons (ps_asg (pe_op op_add (pe_ix ix_list (pv 0) pe_int (fun _ _ => rfl)) pe_int) (pg_sub (pv 0) pe_int set_list))
      (pss_cons (ps_set (i := 3) nd rfl (by first | exact Or.inl rfl | exact Or.inr rfl) (pe_ix ix_list (pe_lst (pa_cons pe_int (pa_cons pe_int (pa_cons pe_int (pa_cons pe_int (pa_cons pe_int pa_nil)))))) (pe_op op_modN (pe_callTy call_int1 (by rfl) T.n_int (by decide +kernel) (pa_cons (pe_ix ix_list (pv 0) pe_int (fun _ _ => rfl)) pa_nil)) pe_int) (fun _ _ => rfl)))
      (pss_cons (ps_set (i := 4) nd rfl (by first | exact Or.inl rfl | exact Or.inr rfl) (pe_op op_modN (pe_callTy call_int1 (by rfl) T.n_int (by decide +kernel) (pa_cons (pe_op op_powW (pe_op op_add (pe_op op_add (pe_ix ix_list (pv 0) pe_int (fun _ _ => rfl)) (pe_op op_mul (pe_op op_mul pe_int (pe_ix ix_list (pv 0) pe_int (fun _ _ => rfl))) (pe_ix ix_list (pv 0) pe_int (fun _ _ => rfl)))) pe_int) pe_int) pa_nil)) (pv 3)))
      (pss_cons (ps_set (i := 4) nd rfl (by first | exact Or.inl rfl | exact Or.inr rfl) (pe_op op_modN (pe_callTy call_int1 (by rfl) T.n_int (by decide +kernel) (pa_cons (pe_op op_mul (pv 4) (pe_op op_add (pe_op op_modN (pe_callTy call_int1 (by rfl) T.n_int (by decide +kernel) (pa_cons (pv 4) pa_nil)) pe_int) (pe_op op_mul pe_int (pe_ix ix_list (pv 0) pe_int (fun _ _ => rfl))))) pa_nil)) pe_int))
      (pss_one (ps_ret (pe_op op_modN (pe_callTy call_int1 (by rfl) T.n_int (by decide +kernel) (pa_cons (pe_op op_fdivN (pv 4) pe_int) pa_nil)) (pv 1))))))))), ?_⟩
    obtain ⟨p, n, B, rfl, ⟨x, y, z, hp, y0, y1, z0, z1⟩, n1, n2, hB, q⟩ := h
    have at0 : ∀ x y z : Int, atI [V.int x, V.int y, V.int z] 0 = some (V.int x) := fun _ _ _ => rfl
    have at1 : ∀ x y z : Int, atI [V.int x, V.int y, V.int z] 1 = some (V.int y) := fun _ _ _ => rfl
    have at2 : ∀ x y z : Int, atI [V.int x, V.int y, V.int z] 2 = some (V.int z) := fun _ _ _ => rfl
    have hn : n ≠ 0 := by omega
    refine ⟨_, rfl, p, _, _, _, rfl, rfl, SqL.of hp, at0 x y z, _, _, rfl, rfl, _, rfl, ite2 (fun h1 => ?_) (fun h1 => ?_)⟩
    · refine ⟨_, rfl, p, _, _, _, rfl, rfl, SqL.of hp, at0 x y z, .inl ⟨_, rfl, ?_⟩⟩
      refine ⟨_, rfl, _, _, rfl, rfl, hn, ?_⟩
      refine ⟨_, rfl, p, _, _, _, rfl, rfl, SqL.of hp, at0 x y z, _, rfl, _, _, rfl, rfl, ⟨hn, by omega⟩, ?_⟩
      refine ⟨_, rfl, p, _, _, 0, rfl, rfl, hp, rfl, _, rfl, ?_⟩
      have d := fmod_in (i := x) n1
      exact q _ _ (But.put p H _) ⟨_, y, z, upd_same, y0, y1, z0, by omega⟩ d.1 d.2
    · refine ⟨_, rfl, p, _, _, _, rfl, rfl, SqL.of hp, at2 x y z, _, _, rfl, rfl, ?_⟩
      refine ⟨_, rfl, p, _, _, 2, rfl, rfl, hp, rfl, ?_⟩
      have b1 := But.put p H (.lst [.int x, .int y, .int (z + 1)])
      have e1 : (upd H p (.lst [.int x, .int y, .int (z + 1)])) p = some (.lst [.int x, .int y, .int (z + 1)]) := upd_same
      show (fun H1 : Hp => _) (upd H p (.lst [.int x, .int y, .int (z + 1)]))
      generalize upd H p (.lst [.int x, .int y, .int (z + 1)]) = H1 at b1 e1
      refine ⟨by show 5 ≤ sizeLine; decide, fun l nl => ?_⟩
      have npl : p ≠ l := ne_of_none e1 nl
      have b2 : But p H (upd H1 l (.lst [V.int 2147483647, V.int 2147483629, V.int 2147483587, V.int 2147483579, V.int 2147483563])) := But.trans b1 (Same.but (Same.new nl) p)
      have e2 : (upd H1 l (.lst [V.int 2147483647, V.int 2147483629, V.int 2147483587, V.int 2147483579, V.int 2147483563])) p = some (.lst [.int x, .int y, .int (z + 1)]) := by rw [upd_ne npl]; exact e1
      have e3 : (upd H1 l (.lst [V.int 2147483647, V.int 2147483629, V.int 2147483587, V.int 2147483579, V.int 2147483563])) l = some (.lst [V.int 2147483647, V.int 2147483629, V.int 2147483587, V.int 2147483579, V.int 2147483563]) := upd_same
      generalize upd H1 l (.lst [V.int 2147483647, V.int 2147483629, V.int 2147483587, V.int 2147483579, V.int 2147483563]) = H2 at b2 e2 e3
      have z0' : 0 ≤ z + 1 := by omega
      have z1' : z + 1 ≤ 100001 := by omega
      obtain ⟨r, er, r0, r1⟩ := prime_at (fmod_in (i := z + 1) (n := 5) (by decide)).1 (fmod_in (i := z + 1) (n := 5) (by decide)).2
      have hr0 : r ≠ 0 := by omega
      refine ⟨_, rfl, p, _, _, _, rfl, rfl, SqL.of e2, at2 x y (z + 1), .inl ⟨_, rfl, ?_⟩⟩
      refine ⟨_, _, rfl, rfl, (by show (5 : Int) ≠ 0; decide), l, _, _, _, rfl, rfl, SqL.of e3, er, ?_⟩
      have sq := sq_in z0' z1'
      have esq : (99991 * 100001 * 100001 : Int) = 999929998299991 := by decide
      have e64 : (2 : Int) ^ 64 = 18446744073709551616 := by decide
      have m1 : CMul 99991 (z + 1) := .inl ⟨by decide, by decide⟩
      have m2 : CMul (99991 * (z + 1)) (z + 1) := .inl ⟨by omega, by omega⟩
      refine ⟨_, rfl, p, _, _, _, rfl, rfl, SqL.of e2, at1 x y (z + 1), ?_⟩
      refine ⟨_, rfl, p, _, _, _, rfl, rfl, SqL.of e2, at2 x y (z + 1), _, _, rfl, rfl, m1, ?_⟩
      refine ⟨_, rfl, p, _, _, _, rfl, rfl, SqL.of e2, at2 x y (z + 1), _, _, rfl, rfl, m2, ?_⟩
      refine ⟨_, _, rfl, rfl, _, _, rfl, rfl, _, _, rfl, rfl, ⟨by decide, pow_bits y0 y1 z0' z1'⟩, .inl ⟨_, rfl, ?_⟩⟩
      refine ⟨_, rfl, _, _, rfl, rfl, hr0, ?_⟩
      have hm := fmod_in (i := (y + 99991 * (z + 1) * (z + 1) + 61) ^ Int.toNat 3) r0
      have m3 : CMul 83 (z + 1) := .inl ⟨by decide, by decide⟩
      have m4 : ∀ M W : Int, 0 ≤ M ∧ M < r → CMul M W := fun M W hM => .inl ⟨by omega, by omega⟩
      refine ⟨_, rfl, _, rfl, .inl ⟨_, rfl, ?_⟩⟩
      refine ⟨_, _, rfl, rfl, (by show (10007 : Int) ≠ 0; decide), ?_⟩
      refine ⟨_, rfl, p, _, _, _, rfl, rfl, SqL.of e2, at2 x y (z + 1), _, _, rfl, rfl, m3, _, _, rfl, rfl, _, _, rfl, rfl, m4 _ _ hm, .inl ⟨_, rfl, ?_⟩⟩
      refine ⟨_, _, rfl, rfl, (by show (2305843009213693907 : Int) ≠ 0; decide), ?_⟩
      refine ⟨_, rfl, _, _, rfl, rfl, ⟨by decide, by decide⟩, .inl ⟨_, rfl, ?_⟩⟩
      refine ⟨_, rfl, _, _, rfl, rfl, hn, ?_⟩
      exact q _ _ b2 ⟨_, y, z + 1, e2, y0, y1, z0', by omega⟩ (fmod_in n1).1 (fmod_in n1).2
theorem ok_law_any (T : Tx7 P K mg C CB CK fB)  {f_law_draw : Addr} {fd_law_draw : FuncData} (D_law_draw : Cal P w K mg base 1 "_law_draw" ["_law_pot_here", "_law_many"] (spDraw) f_law_draw fd_law_draw)  {f : Addr} {fd : FuncData} (F : FunD K "_law_any" "_law_any" (defArgs s_law_any) (defBody s_law_any) (defScope s_law_any) [] [] f fd) : FnOk P w K mg base CX0 2 f fd ["_law_pot_here", "_law_items"] (spAny) := by
  refine F.ok sc_law_any (fun vs H Q E h => ?_) (fun cdv A outer s H vs Q E hr h => ?_)
  · obtain ⟨p, l, xs, B, rfl, _⟩ := h
    rfl
  · have nd := sc_law_any.nd
    have hu := hu_of hr
    refine ⟨_, PSs.nox (pss_one (ps_ret (pe_ix ix_list (pv 1) (pe_c D_law_draw hr rfl (pa_cons (pv 0) (pa_cons (pe_callB (id := "len") call_len (by rfl) T.n_len (by decide +kernel) (pa_cons (pv 1) pa_nil)) pa_nil))) (fun _ _ => rfl)))), ?_⟩
    obtain ⟨p, l, xs, B, rfl, hp, hl, np, x0, x1, hB, q⟩ := h
    refine ⟨_, rfl, _, rfl, _, rfl, _, _, rfl, .inl ⟨_, SqL.of hl, rfl⟩, ?_⟩
    refine ⟨p, xs.length, B, rfl, hp, by omega, by omega, hB, fun H1 d b1 p1 d0 d1 => ?_⟩
    obtain ⟨x, e, m⟩ := atI_nat (xs := xs) d0 d1
    exact ⟨l, xs, d, x, rfl, rfl, SqL.of (b1 _ _ np hl), e, q _ _ b1 p1 m⟩
theorem ok_law_places (T : Tx7 P K mg C CB CK fB)    {f : Addr} {fd : FuncData} (F : FunD K "_law_places" "_law_places" (defArgs s_law_places) (defBody s_law_places) (defScope s_law_places) [] [] f fd) : FnOk P w K mg base CX0 1 f fd ["_law_couples_here"] (spPlaces7) := by
  refine F.ok sc_law_places (fun vs H Q E h => ?_) (fun cdv A outer s H vs Q E hr h => ?_)
  · obtain ⟨l, ps, rfl, _⟩ := h
    rfl
  · have nd := sc_law_places.nd
    have hu := hu_of hr
    refine ⟨_, PSs.nox (pss_cons (ps_set (i := 1) nd rfl (by first | exact Or.inl rfl | exact Or.inr rfl) pe_dnewK)
      (pss_cons (ps_for PassesOwn.never rfl (pi_list (pv 0)) (pg_tup rfl (pgs_cons (pg_name (i := 2) nd rfl (by first | exact Or.inl rfl | exact Or.inr rfl)) (pgs_cons (pg_name (i := 3) nd rfl (by first | exact Or.inl rfl | exact Or.inr rfl)) pgs_nil))) (pss_one (ps_for PassesOwn.never rfl (pi_range2 rfl T.n_range (pa_cons (pv 2) (pa_cons (pv 3) pa_nil))) (pg_name (i := 4) nd rfl (by first | exact Or.inl rfl | exact Or.inr rfl)) (pss_one (ps_dput hu (pv 1) (pv 4) pe_bl rfl)))))
      (pss_one (ps_ret (pv 1))))), ?_⟩
    obtain ⟨l, ps, rfl, ⟨xs, hl, hx⟩, o, w9, l5, k⟩ := h
    have lxp := PairsV.len hx
    intro d nd0
    refine ⟨_, rfl, l, rfl, ⟨_, SqL.of (Same.new nd0 _ _ hl)⟩, for_list (K := K) (a := l) (xs := xs) (fun i σ H' => ∃ (ks : List Int) (v2 v3 v4 : Option V), σ = [some (.ref l), some (.ref d), v2, v3, v4] ∧ Same H H' ∧ H' d = some (.dK (setK ks)) ∧ ks.Nodup ∧ (∀ x, x ∈ ks ↔ covers (ps.take i) x) ∧ ks.length ≤ 99 * i)
      ⟨[], none, none, none, rfl, Same.new nd0, upd_same, List.nodup_nil, (fun x => ⟨fun h => absurd h List.not_mem_nil, fun h => absurd h covers_nil⟩), Nat.zero_le _⟩ (fun i σ H' _ ⟨_, _, _, _, _, s, _⟩ => SqL.of (s _ _ hl)) ?_ ?_⟩
    · rintro i x σ H' hi ⟨ks, v2, v3, v4, rfl, s, hd, nk, mk, lk⟩
      obtain ⟨⟨a, b⟩, hp, t, rfl, ht⟩ := PairsV.get (PairsV.stay (Same.tups s) hx) hi
      have hpm := List.mem_of_getElem? hp
      obtain ⟨o1, o2, o3⟩ := o _ hpm
      have w1 := w9 _ hpm
      have o1 : 0 ≤ a := o1
      have o2 : a < b := o2
      have o3 : b ≤ 1000000 := o3
      have w1 : b - a ≤ 99 := w1
      have hi' : i < xs.length := (List.getElem?_eq_some_iff.mp hi).1
      refine ⟨t, _, rfl, SqT.of ht, rfl, _, _, rfl, _, _, rfl, rfl, ?_⟩
      refine ⟨_, rfl, _, rfl, a, b, rfl, ⟨by omega, by omega, by omega, by omega⟩, for_range (fun j σ H3 => ∃ (ks : List Int) (v4 : Option V), σ = [some (.ref l), some (.ref d), some (.int a), some (.int b), v4] ∧ Same H H3 ∧ H3 d = some (.dK (setK ks)) ∧ ks.Nodup ∧ (∀ x, x ∈ ks ↔ (covers (ps.take i) x ∨ (a ≤ x ∧ x < a + (j : Int)))) ∧ ks.length ≤ 99 * i + j)
        ⟨ks, v4, rfl, s, hd, nk, (fun x => (mk x).trans ⟨.inl, fun h => h.elim id fun z => by omega⟩), lk⟩ ?_ ?_⟩
      · rintro j σ H3 hj ⟨ks, v4, rfl, s, hd, nk, mk, lk⟩
        have hz : 1000 < sizeLine := by decide
        refine ⟨_, rfl, _, rfl, d, _, rfl, .inl ⟨setK ks, .inl (a + (j : Int)), hd, rfl, by rw [setK_len]; omega, rfl⟩, ?_⟩
        refine ⟨addK ks (a + (j : Int)), _, rfl, Same.mut s nd0, (by rw [upd_same, putK_set]), addK_nodup nk, (fun x => ?_), Nat.le_trans addK_len (by omega)⟩
        rw [addK_mem, mk x, or_assoc]
        constructor
        · rintro (h | h | h)
          · exact .inl h
          · exact .inr (by omega)
          · exact .inr (by omega)
        · rintro (h | h)
          · exact .inl h
          · by_cases e : x = a + (j : Int)
            · exact .inr (.inr e)
            · exact .inr (.inl (by omega))
      · rintro σ H3 ⟨ks, v4, rfl, s, hd, nk, mk, lk⟩
        refine ⟨ks, _, _, _, rfl, s, hd, nk, (fun x => (mk x).trans ?_), by omega⟩
        rw [List.take_add_one, hp]
        rw [covers_append]
        have e : covers (Option.toList (some (a, b))) x ↔ (a ≤ x ∧ x < b) := by
          show covers [(a, b)] x ↔ _
          rw [covers_cons]
          exact ⟨fun h => h.elim id fun z => absurd z covers_nil, .inl⟩
        rw [e]
        constructor
        · rintro (h | h)
          · exact .inl h
          · exact .inr (by omega)
        · rintro (h | h)
          · exact .inl h
          · exact .inr (by omega)
    · rintro σ H' ⟨ks, v2, v3, v4, rfl, s, hd, nk, mk, lk⟩
      rw [lxp, List.take_length] at mk
      exact ⟨_, rfl, k _ d ks s nd0 hd nk mk (by omega)⟩
theorem ok_law_couples (T : Tx7 P K mg C CB CK fB)    {f : Addr} {fd : FuncData} (F : FunD K "_law_couples" "_law_couples" (defArgs s_law_couples) (defBody s_law_couples) (defScope s_law_couples) [] [] f fd) : FnOk P w K mg base CX0 1 f fd ["_law_places_here"] (spCouples) := by
  refine F.ok sc_law_couples (fun vs H Q E h => ?_) (fun cdv A outer s H vs Q E hr h => ?_)
  · obtain ⟨d, ks, rfl, _⟩ := h
    rfl
  · have nd := sc_law_couples.nd
    have hu := hu_of hr
    refine ⟨_, PSs.nox (pss_cons (ps_set (i := 1) nd rfl (by first | exact Or.inl rfl | exact Or.inr rfl) (pe_lst pa_nil))
      (pss_cons (ps_for PassesOwn.never rfl (pi_list (pe_callB (id := "sorted") (cr_sortedDI rfl) (by rfl) T.n_sorted (by decide +kernel) (pa_cons (pv 0) pa_nil))) (pg_name (i := 2) nd rfl (by first | exact Or.inl rfl | exact Or.inr rfl)) (pss_one (ps_if (PW.pt (pw_and (pt_cmpR (op_neD hr.units) (pv 1) (pe_lst pa_nil) (nomark _)) (pw_and1 (pt_cmpR op_eq (pe_ix ix_tup (pe_ix ix_list (pv 1) (pe_un un_neg pe_int) (fun _ _ => rfl)) pe_int (fun _ _ => rfl)) (pv 2) (nomark _))))) (pss_one (ps_asg (pe_tup (pa_cons (pe_ix ix_tup (pe_ix ix_list (pv 1) (pe_un un_neg pe_int) (fun _ _ => rfl)) pe_int (fun _ _ => rfl)) (pa_cons (pe_op op_add (pv 2) pe_int) pa_nil))) (pg_sub (pv 1) (pe_un un_neg pe_int) set_list))) (pss_one (ps_expr (pe_bm PySem.F.plainAttrs_list PySem.F.slot_list_append PySem.F.type_list_append mt_append (pv 1) (pa_cons (pe_tup (pa_cons (pv 2) (pa_cons (pe_op op_add (pv 2) pe_int) pa_nil))) pa_nil)))))))
      (pss_one (ps_ret (pe_tupleOf (by rfl) T.n_tuple (pv 1)))))), ?_⟩
    obtain ⟨d, ks, rfl, hd, nk, bk, lk, k⟩ := h
    refine ⟨Nat.zero_le _, fun l nl => ?_⟩
    have s1 : Same H (upd H l (.lst [])) := Same.new nl
    have hl1 : (upd H l (.lst [])) l = some (.lst []) := upd_same
    generalize upd H l (.lst []) = H1 at s1 hl1
    refine ⟨_, rfl, d, setK ks, ks, rfl, Rd.of (s1 _ _ hd), by unfold setK; rw [List.map_map]; rfl, fun ys q perm srt nq => ?_⟩
    have lyk : ys.length = ks.length := perm.length_eq
    have nlq : l ≠ q := ne_of_none hl1 nq
    have st := strict_of srt (nodup_perm perm nk)
    have by' : ∀ x ∈ ys, 0 ≤ x ∧ x < 1000000 := fun x m => bk x (perm.mem_iff.mp m)
    have hz : 1000 < sizeLine := by decide
    refine ⟨q, rfl, ⟨_, SqL.of upd_same⟩, for_list (K := K) (a := q) (xs := ys.map V.int) (fun i σ H' => ∃ (fs : List V) (v2 : Option V), σ = [some (.ref d), some (.ref l), v2] ∧ Same H H' ∧ H' q = some (.lst (ys.map V.int)) ∧ H' l = some (.lst fs) ∧ PairsV H' fs (cpF (ys.take i)) ∧ fs.length ≤ i)
      ⟨[], none, rfl, Same.mut s1 (s1.free nq), upd_same, (by rw [upd_ne nlq]; exact hl1), .nil, Nat.zero_le _⟩ (fun i σ H' _ ⟨_, _, _, _, e, _⟩ => SqL.of e) ?_ ?_⟩
    · rintro i x σ H' hi ⟨fs, v2, rfl, s, hq, hl, hf, lf⟩
      rw [List.getElem?_map] at hi
      obtain ⟨y, hy, rfl⟩ := Option.map_eq_some_iff.mp hi
      have hi' : i < ys.length := (List.getElem?_eq_some_iff.mp hy).1
      have stp : cpF (ys.take (i + 1)) = cpStep (cpF (ys.take i)) y := by
        unfold cpF
        exact fold_take hy
      generalize cpF (ys.take i) = g at stp hf
      refine ⟨_, rfl, Nat.zero_le _, fun e ne => ?_⟩
      have nle : l ≠ e := ne_of_none hl ne
      have nqe : q ≠ e := ne_of_none hq ne
      have s2 : Same H (upd H' e (.lst [])) := Same.mut s (s.free ne)
      have hl2 : (upd H' e (.lst [])) l = some (.lst fs) := by rw [upd_ne nle]; exact hl
      have hq2 : (upd H' e (.lst [])) q = some (.lst (ys.map V.int)) := by rw [upd_ne nqe]; exact hq
      have hf2 := PairsV.stay (Same.tups (Same.new (o := .lst []) ne)) hf
      have he2 : (upd H' e (.lst [])) e = some (.lst []) := upd_same
      generalize upd H' e (.lst []) = H2 at s2 hl2 hq2 hf2 he2
      have app : ∀ r, H2 r = none → TupsStay H2 (upd (upd H2 r (.tup [.int y, .int (y + 1)])) l (.lst (fs ++ [.ref r]))) := fun r nr =>
        TupsStay.trans (Same.tups (Same.new nr)) (TupsStay.upd fun z => by rw [upd_ne (ne_of_none hl2 nr), hl2]; intro w; cases w)
      refine ⟨dL g, dL [], dp_lst hl2 hf2, dp_lst he2 .nil, shaped_dL _, shaped_dL _, ?_⟩
      rw [eqv_dL]
      have hz2 : fs.length < sizeLine := by omega
      rcases List.eq_nil_or_concat g with e | ⟨g0, p, e⟩
      · subst e
        refine ⟨false, rfl, iteF ?_⟩
        show if false = true then _ else _
        refine iteF ?_
        refine ⟨_, rfl, .inl ⟨rfl, _, SqL.of hl2⟩, _, rfl, _, rfl, _, _, rfl, rfl, (by show 2 ≤ sizeLine; decide), fun r nr => ?_⟩
        refine ⟨l, fs, _, rfl, rfl, (by rw [upd_ne (ne_of_none hl2 nr)]; exact hl2), hz2, ?_⟩
        refine ⟨fs ++ [.ref r], _, rfl, Same.mut (Same.mut s2 (s2.free nr)) nl, ?_, upd_same, ?_, by rw [List.length_append]; show _ + 1 ≤ _; omega⟩
        · rw [upd_ne nlq.symm, upd_ne (ne_of_none hq2 nr)]
          exact hq2
        · rw [stp]
          cases hf2
          refine PairsV.one ?_
          rw [upd_ne (ne_of_none hl2 nr).symm, upd_same]
      · rw [List.concat_eq_append] at e
        subst e
        obtain ⟨gs, x, rfl, hg, t, rfl, ht⟩ := PairsV.snoc hf2
        obtain ⟨a, b⟩ := p
        refine ⟨true, ?_, ?_⟩
        · rw [decide_eq_false (by intro z; exact absurd z (by simp))]
          rfl
        show if true = true then _ else _
        refine iteT ?_
        refine ⟨_, rfl, _, rfl, l, _, -1, _, rfl, rfl, SqL.of hl2, atI_last _ _, t, _, 1, _, rfl, rfl, SqT.of ht, atI_two1 _ _, _, rfl, rfl, _, rfl, ?_⟩
        show if decide (V.int b = V.int y) = true then _ else _
        refine ite2 (fun h1 => ?_) (fun h1 => ?_)
        · have h1 : b = y := V.int.inj (of_decide_eq_true h1)
          refine ⟨_, rfl, _, rfl, l, _, -1, _, rfl, rfl, SqL.of hl2, atI_last _ _, t, _, 0, _, rfl, rfl, SqT.of ht, atI_two0 _ _, _, rfl, _, _, rfl, rfl, (by show 2 ≤ sizeLine; decide), fun r nr => ?_⟩
          refine ⟨_, rfl, _, rfl, l, _, -1, gs.length, rfl, rfl, (by rw [upd_ne (ne_of_none hl2 nr)]; exact hl2), (by rw [List.length_append]; exact ixN_last _), ?_⟩
          have e3 : (gs ++ [V.ref t]).set gs.length (.ref r) = gs ++ [.ref r] := by
            rw [List.set_append_right _ _ (Nat.le_refl _), Nat.sub_self]
            rfl
          rw [e3]
          refine ⟨gs ++ [.ref r], _, rfl, Same.mut (Same.mut s2 (s2.free nr)) nl, ?_, upd_same, ?_, by rw [List.length_append] at lf ⊢; exact Nat.le_succ_of_le lf⟩
          · rw [upd_ne nlq.symm, upd_ne (ne_of_none hq2 nr)]
            exact hq2
          · rw [stp, cpStep_snoc, if_pos h1]
            refine PairsV.app (PairsV.stay (TupsStay.trans (Same.tups (Same.new nr)) (TupsStay.upd fun z => by rw [upd_ne (ne_of_none hl2 nr), hl2]; intro w; cases w)) hg) (PairsV.one ?_)
            rw [upd_ne (ne_of_none hl2 nr).symm, upd_same]
        · have h1 : ¬ b = y := fun z => h1 (decide_eq_true (congrArg V.int z))
          refine ⟨_, rfl, .inl ⟨rfl, _, SqL.of hl2⟩, _, rfl, _, rfl, _, _, rfl, rfl, (by show 2 ≤ sizeLine; decide), fun r nr => ?_⟩
          refine ⟨l, _, _, rfl, rfl, (by rw [upd_ne (ne_of_none hl2 nr)]; exact hl2), hz2, ?_⟩
          refine ⟨_, _, rfl, Same.mut (Same.mut s2 (s2.free nr)) nl, ?_, upd_same, ?_, by rw [List.length_append]; exact Nat.succ_le_succ lf⟩
          · rw [upd_ne nlq.symm, upd_ne (ne_of_none hq2 nr)]
            exact hq2
          · rw [stp, cpStep_snoc, if_neg h1]
            refine PairsV.app (PairsV.stay (app r nr) hf2) (PairsV.one ?_)
            rw [upd_ne (ne_of_none hl2 nr).symm, upd_same]
    · rintro σ H' ⟨fs, v2, rfl, s, hq, hl, hf, lf⟩
      rw [List.length_map, List.take_length] at hf
      rw [List.length_map] at lf
      refine ⟨_, rfl, .inl ⟨l, _, rfl, SqL.of hl, fun q2 nq2 => ?_⟩⟩
      obtain ⟨r1, r2, r3⟩ := cpF_ok st by'
      exact k _ q2 _ (Same.mut s (s.free nq2)) ⟨_, upd_same, PairsV.stay (Same.tups (Same.new nq2)) hf⟩ r1 r2 fun x => (r3 x).trans perm.mem_iff
theorem ok_law_drawn (T : Tx7 P K mg C CB CK fB)  {f_law_draw : Addr} {fd_law_draw : FuncData} (D_law_draw : Cal P w K mg base 1 "_law_draw" ["_law_pot_here", "_law_many"] (spDraw) f_law_draw fd_law_draw) {f_law_any : Addr} {fd_law_any : FuncData} (D_law_any : Cal P w K mg base 2 "_law_any" ["_law_pot_here", "_law_items"] (spAny) f_law_any fd_law_any)  {f : Addr} {fd : FuncData} (F : FunD K "_law_drawn" "_law_drawn" (defArgs s_law_drawn) (defBody s_law_drawn) (defScope s_law_drawn) [] [] f fd) : FnOk P w K mg base CX0 3 f fd ["_law_pot_here", "_law_most", "_law_wide"] (spDrawn7) := by
  refine F.ok sc_law_drawn (fun vs H Q E h => ?_) (fun cdv A outer s H vs Q E hr h => ?_)
  · obtain ⟨p, B, rfl, _⟩ := h
    rfl
  · have nd := sc_law_drawn.nd
    have hu := hu_of hr
    refine ⟨_, PSs.nox (pss_cons (ps_par (i := 3) (j := 4) (by rfl) nd rfl rfl (by decide) rfl rfl (pa_cons (pe_c D_law_any hr rfl (pa_cons (pv 0) (pa_cons (pe_lst (pa_cons pe_int (pa_cons pe_int (pa_cons pe_int (pa_cons pe_int (pa_cons pe_int pa_nil)))))) pa_nil))) (pa_cons (pe_lst pa_nil) pa_nil)) (by rfl))
      (pss_cons (ps_for PassesOwn.never rfl (pi_range1 rfl T.n_range (pa_cons (pe_c D_law_draw hr rfl (pa_cons (pv 0) (pa_cons (pe_op op_add (pv 1) pe_int) pa_nil))) pa_nil)) (pg_name (i := 5) nd rfl (by first | exact Or.inl rfl | exact Or.inr rfl)) (pss_cons (ps_set (i := 6) nd rfl (by first | exact Or.inl rfl | exact Or.inr rfl) (pe_op op_add (pv 3) (pe_c D_law_draw hr rfl (pa_cons (pv 0) (pa_cons (pv 2) pa_nil)))))
      (pss_one (ps_expr (pe_bm PySem.F.plainAttrs_list PySem.F.slot_list_append PySem.F.type_list_append mt_append (pv 4) (pa_cons (pe_tup (pa_cons (pv 6) (pa_cons (pe_op op_add (pe_op op_add (pv 6) pe_int) (pe_c D_law_draw hr rfl (pa_cons (pv 0) (pa_cons pe_int pa_nil)))) pa_nil))) pa_nil))))))
      (pss_one (ps_ret (pv 4))))), ?_⟩
    obtain ⟨p, B, rfl, hp, hB, k⟩ := h
    refine ⟨_, rfl, (by show 5 ≤ sizeLine; decide), fun l0 n0 => ?_⟩
    have np0 : l0 ≠ p := by
      obtain ⟨x, y, z, e, _⟩ := hp
      exact (ne_of_none e n0).symm
    refine ⟨p, l0, _, B, rfl, hp.same (Same.new n0), upd_same, np0, (by show 1 ≤ 5; decide), (by show 5 < 1073741824; decide), by omega, fun H1 x b1 p1 mx => ?_⟩
    have b1 : But p H H1 := But.trans (Same.but (Same.new n0) p) b1
    obtain ⟨base, rfl, ba0, ba1⟩ : ∃ i : Int, x = .int i ∧ 0 ≤ i ∧ i ≤ 999960 := by
      rcases List.mem_cons.mp mx with rfl | mx
      · exact ⟨_, rfl, by decide, by decide⟩
      rcases List.mem_cons.mp mx with rfl | mx
      · exact ⟨_, rfl, by decide, by decide⟩
      rcases List.mem_cons.mp mx with rfl | mx
      · exact ⟨_, rfl, by decide, by decide⟩
      rcases List.mem_cons.mp mx with rfl | mx
      · exact ⟨_, rfl, by decide, by decide⟩
      rcases List.mem_cons.mp mx with rfl | mx
      · exact ⟨_, rfl, by decide, by decide⟩
      cases mx
    refine ⟨Nat.zero_le _, fun l nl => ?_⟩
    have npl : l ≠ p := by
      obtain ⟨x, y, z, e, _⟩ := p1
      exact (ne_of_none e nl).symm
    have nlH : H l = none := b1.free npl nl
    have p2 : PotAt (upd H1 l (.lst [])) p (B + 1) := p1.same (Same.new nl)
    have b2 : But p H (upd H1 l (.lst [])) := b1.mut nlH
    have e2 : (upd H1 l (.lst [])) l = some (.lst []) := upd_same
    refine ⟨_, _, rfl, ?_⟩
    generalize upd H1 l (.lst []) = H2 at p2 b2 e2
    refine ⟨_, rfl, _, rfl, _, _, rfl, rfl, p, _, _, rfl, p2, (by decide), (by decide), by omega, fun H3 d b3 p3 d0 d1 => ?_⟩
    have d1 : d < 6 := d1
    have e3 := b3 _ _ npl e2
    have b3 : But p H H3 := But.trans b2 b3
    refine ⟨d, rfl, by omega, by omega, for_range (fun i σ H' => ∃ (fs : List V) (ps : List P2) (v5 v6 : Option V), σ = [some (.ref p), some (.int 5), some (.int 20), some (.int base), some (.ref l), v5, v6] ∧ But p H H' ∧ PotAt H' p (B + 2 + 2 * i) ∧ H' l = some (.lst fs) ∧ PairsV H' fs ps ∧ Oks ps ∧ (∀ q ∈ ps, q.2 - q.1 ≤ 9) ∧ ps.length = i)
      ⟨[], [], none, none, rfl, b3, p3.mono (by omega), e3, .nil, oks_nil, (fun q m => absurd m List.not_mem_nil), rfl⟩ ?_ ?_⟩
    · rintro i σ H4 hi ⟨fs, ps, v5, v6, rfl, b4, p4, e4, f4, o4, w4, l4⟩
      have hi5 : i < 5 := by omega
      have lf := PairsV.len f4
      refine ⟨_, rfl, _, rfl, _, rfl, p, 20, _, rfl, p4, (by decide), (by decide), by omega, fun H5 s5 b5 p5 s0 s1 => ?_⟩
      have e5 := b5 _ _ npl e4
      have f5 := PairsV.stay (p4.tups b5) f4
      have b5 := But.trans b4 b5
      refine ⟨_, _, rfl, rfl, ?_⟩
      refine ⟨_, rfl, .inl ⟨rfl, _, SqL.of e5⟩, _, rfl, _, rfl, _, _, rfl, rfl, _, rfl, p, 9, _, rfl, p5, (by decide), (by decide), by omega, fun H6 s6 b6 p6 t0 t1 => ?_⟩
      have e6 := b6 _ _ npl e5
      have f6 := PairsV.stay (p5.tups b6) f5
      have b6 := But.trans b5 b6
      refine ⟨_, _, rfl, rfl, (by show 2 ≤ sizeLine; decide), fun r nr => ?_⟩
      have nlr : l ≠ r := ne_of_none e6 nr
      have npr : p ≠ r := by
        obtain ⟨x, y, z, e, _⟩ := p6
        exact ne_of_none e nr
      have hz : 10 < sizeLine := by decide
      refine ⟨l, fs, _, rfl, rfl, (by rw [upd_ne nlr]; exact e6), by omega, ?_⟩
      refine ⟨fs ++ [.ref r], ps ++ [(base + s5, base + s5 + 1 + s6)], _, _, rfl, (b6.mut (b6.free npr.symm nr)).mut nlH, ?_, upd_same, ?_, oks_app o4 (oks_one ⟨?_, ?_, ?_⟩), ?_, ?_⟩
      · obtain ⟨x, y, z, e, q⟩ := p6
        refine ⟨x, y, z, ?_, q.1, q.2.1, q.2.2.1, ?_⟩
        · rw [upd_ne npl.symm, upd_ne npr]
          exact e
        · have := q.2.2.2
          omega
      · refine PairsV.app (PairsV.stay (TupsStay.trans (Same.tups (Same.new nr)) (TupsStay.upd fun z => by rw [upd_ne nlr, e6]; intro w; cases w)) f6) (PairsV.one ?_)
        rw [upd_ne nlr.symm, upd_same]
      · show 0 ≤ base + s5
        omega
      · show base + s5 < base + s5 + 1 + s6
        omega
      · show base + s5 + 1 + s6 ≤ 1000000
        omega
      · intro q m
        rcases List.mem_append.mp m with m | m
        · exact w4 q m
        · rw [List.mem_singleton.mp m]
          show base + s5 + 1 + s6 - (base + s5) ≤ 9
          omega
      · rw [List.length_append, l4]
        rfl
    · rintro σ H4 ⟨fs, ps, v5, v6, rfl, b4, p4, e4, f4, o4, w4, l4⟩
      exact ⟨_, rfl, k _ l ps b4 (p4.mono (by omega)) npl nlH ⟨fs, e4, f4⟩ o4 w4 (by omega)⟩
theorem ok_law_odd (T : Tx7 P K mg C CB CK fB)  {f_law_any : Addr} {fd_law_any : FuncData} (D_law_any : Cal P w K mg base 2 "_law_any" ["_law_pot_here", "_law_items"] (spAny) f_law_any fd_law_any)  {f : Addr} {fd : FuncData} (F : FunD K "_law_odd" "_law_odd" (defArgs s_law_odd) (defBody s_law_odd) (defScope s_law_odd) [] [] f fd) : FnOk P w K mg base CX0 3 f fd ["_law_pot_here"] (spOdd K) := by
  refine F.ok sc_law_odd (fun vs H Q E h => ?_) (fun cdv A outer s H vs Q E hr h => ?_)
  · obtain ⟨p, B, rfl, _⟩ := h
    rfl
  · have nd := sc_law_odd.nd
    have hu := hu_of hr
    refine ⟨_, PSs.nox (pss_cons (ps_set (i := 1) nd rfl (by first | exact Or.inl rfl | exact Or.inr rfl) (pe_lst (pa_cons pe_non (pa_cons pe_bl (pa_cons pe_bl (pa_cons pe_int (pa_cons pe_int (pa_cons (pe_un un_neg pe_int) (pa_cons (pe_op op_powW pe_int pe_int) (pa_cons pe_str (pa_cons pe_str (pa_cons pe_str (pa_cons (pe_tup pa_nil) (pa_cons (pe_lst pa_nil) (pa_cons pe_dnewK (pa_cons (pe_tup (pa_cons pe_int pa_nil)) (pa_cons (pe_tup (pa_cons pe_int (pa_cons pe_int pa_nil))) (pa_cons (pe_lst (pa_cons pe_int (pa_cons pe_int pa_nil))) (pa_cons (pe_tup (pa_cons pe_int (pa_cons pe_int pa_nil))) (pa_cons (pe_tup (pa_cons pe_int (pa_cons pe_int pa_nil))) pa_nil))))))))))))))))))))
      (pss_cons (ps_set (i := 1) nd rfl (by first | exact Or.inl rfl | exact Or.inr rfl) (pe_op op_cat (pv 1) (pe_lst (pa_cons (pe_tup (pa_cons pe_int (pa_cons pe_bl pa_nil))) (pa_cons (pe_tup (pa_cons (pe_un un_neg pe_int) (pa_cons pe_int pa_nil))) (pa_cons (pe_tup (pa_cons pe_int (pa_cons pe_int pa_nil))) (pa_cons (pe_tup (pa_cons pe_int (pa_cons pe_int pa_nil))) (pa_cons (pe_tup (pa_cons pe_int (pa_cons pe_int pa_nil))) (pa_cons (pe_tup (pa_cons (pe_tup (pa_cons pe_int (pa_cons pe_int pa_nil))) pa_nil)) (pa_cons (pe_tup (pa_cons pe_int (pa_cons pe_int (pa_cons pe_int pa_nil)))) pa_nil))))))))))
      (pss_cons (ps_set (i := 2) nd rfl (by first | exact Or.inl rfl | exact Or.inr rfl) (pe_c D_law_any hr rfl (pa_cons (pv 0) (pa_cons (pv 1) pa_nil))))
      (pss_cons (ps_for PassesOwn.never rfl (pi_range1 rfl T.n_range (pa_cons (pe_c D_law_any hr rfl (pa_cons (pv 0) (pa_cons (pe_lst (pa_cons pe_int (pa_cons pe_int (pa_cons pe_int (pa_cons pe_int (pa_cons pe_int (pa_cons pe_int pa_nil))))))) pa_nil))) pa_nil)) (pg_name (i := 3) nd rfl (by first | exact Or.inl rfl | exact Or.inr rfl)) (pss_one (ps_set (i := 2) nd rfl (by first | exact Or.inl rfl | exact Or.inr rfl) (pe_c D_law_any hr rfl (pa_cons (pv 0) (pa_cons (pe_lst (pa_cons (pe_tup (pa_cons (pv 2) pa_nil)) (pa_cons (pe_lst (pa_cons (pv 2) pa_nil)) (pa_cons (pe_disp (pps_cons pe_str (pv 2) pps_nil) rfl rfl (by decide) (by decide)) (pa_cons (pe_tup (pa_cons (pv 2) (pa_cons (pv 2) pa_nil))) (pa_cons (pe_tup (pa_cons pe_int (pa_cons (pv 2) pa_nil))) pa_nil)))))) pa_nil))))))
      (pss_one (ps_ret (pv 2))))))), ?_⟩
    obtain ⟨p, B, rfl, pot, hB, k⟩ := h
    have S0 := Same.refl H
    have P0 := pot
    have A0 : DqA K (off p H) [.non, .bl true, .bl false, .int 0, .int 1, .int (-1), .int (10 ^ Int.toNat 30), .str "", .str "x", .str "0"] [.none, .bool true, .bool false, .int 0, .int 1, .int (-1), .int (10 ^ Int.toNat 30), .str "", .str "x", .str "0"] := .cons .non (.cons (.bl _) (.cons (.bl _) (.cons (.int _) (.cons (.int _) (.cons (.int _) (.cons (.int _) (.cons (.str _) (.cons (.str _) (.cons (.str _) .nil)))))))))
    refine ⟨_, rfl, _, _, rfl, rfl, ⟨by decide, by decide +kernel⟩, ?_⟩
    refine ⟨by show 0 ≤ sizeLine; decide, fun t1 n1 => ?_⟩
    have S1 := Same.mut (o := .tup []) S0 (S0.free n1)
    have P1 := P0.same (Same.new (o := .tup []) n1)
    have A1 := grow (o := .tup []) (d := .tuple []) A0 P0 n1 fun e => .tup e .nil
    generalize upd H t1 (.tup []) = H1 at S1 P1 A1
    refine ⟨by show 0 ≤ sizeLine; decide, fun t2 n2 => ?_⟩
    have S2 := Same.mut (o := .lst []) S1 (S1.free n2)
    have P2 := P1.same (Same.new (o := .lst []) n2)
    have A2 := grow (o := .lst []) (d := .list []) A1 P1 n2 fun e => .lst e .nil
    generalize upd H1 t2 (.lst []) = H2 at S2 P2 A2
    refine fun t3 n3 => ?_
    have S3 := Same.mut (o := .dK []) S2 (S2.free n3)
    have P3 := P2.same (Same.new (o := .dK []) n3)
    have A3 := grow (o := .dK []) (d := .dict []) A2 P2 n3 fun e => .dct e rfl .nil
    generalize upd H2 t3 (.dK []) = H3 at S3 P3 A3
    refine ⟨by show 1 ≤ sizeLine; decide, fun t4 n4 => ?_⟩
    have S4 := Same.mut (o := .tup [.int 0]) S3 (S3.free n4)
    have P4 := P3.same (Same.new (o := .tup [.int 0]) n4)
    have A4 := grow (o := .tup [.int 0]) (d := .tuple [.int 0]) A3 P3 n4 fun e => .tup e (.cons (.int _) .nil)
    generalize upd H3 t4 (.tup [.int 0]) = H4 at S4 P4 A4
    refine ⟨by show 2 ≤ sizeLine; decide, fun t5 n5 => ?_⟩
    have S5 := Same.mut (o := .tup [.int 0, .int 1]) S4 (S4.free n5)
    have P5 := P4.same (Same.new (o := .tup [.int 0, .int 1]) n5)
    have A5 := grow (o := .tup [.int 0, .int 1]) (d := .tuple [.int 0, .int 1]) A4 P4 n5 fun e => .tup e (.cons (.int _) (.cons (.int _) .nil))
    generalize upd H4 t5 (.tup [.int 0, .int 1]) = H5 at S5 P5 A5
    refine ⟨by show 2 ≤ sizeLine; decide, fun t6 n6 => ?_⟩
    have S6 := Same.mut (o := .lst [.int 0, .int 1]) S5 (S5.free n6)
    have P6 := P5.same (Same.new (o := .lst [.int 0, .int 1]) n6)
    have A6 := grow (o := .lst [.int 0, .int 1]) (d := .list [.int 0, .int 1]) A5 P5 n6 fun e => .lst e (.cons (.int _) (.cons (.int _) .nil))
    generalize upd H5 t6 (.lst [.int 0, .int 1]) = H6 at S6 P6 A6
    refine ⟨by show 2 ≤ sizeLine; decide, fun t7 n7 => ?_⟩
    have S7 := Same.mut (o := .tup [.int 1, .int 0]) S6 (S6.free n7)
    have P7 := P6.same (Same.new (o := .tup [.int 1, .int 0]) n7)
    have A7 := grow (o := .tup [.int 1, .int 0]) (d := .tuple [.int 1, .int 0]) A6 P6 n7 fun e => .tup e (.cons (.int _) (.cons (.int _) .nil))
    generalize upd H6 t7 (.tup [.int 1, .int 0]) = H7 at S7 P7 A7
    refine ⟨by show 2 ≤ sizeLine; decide, fun t8 n8 => ?_⟩
    have S8 := Same.mut (o := .tup [.int 3, .int 3]) S7 (S7.free n8)
    have P8 := P7.same (Same.new (o := .tup [.int 3, .int 3]) n8)
    have A8 := grow (o := .tup [.int 3, .int 3]) (d := .tuple [.int 3, .int 3]) A7 P7 n8 fun e => .tup e (.cons (.int _) (.cons (.int _) .nil))
    generalize upd H7 t8 (.tup [.int 3, .int 3]) = H8 at S8 P8 A8
    refine ⟨by show 18 ≤ sizeLine; decide, fun L1 m1 => ?_⟩
    have S9 := Same.mut (o := .lst [.non, .bl true, .bl false, .int 0, .int 1, .int (-1), .int (10 ^ Int.toNat 30), .str "", .str "x", .str "0", .ref t1, .ref t2, .ref t3, .ref t4, .ref t5, .ref t6, .ref t7, .ref t8]) S8 (S8.free m1)
    have P9 := P8.same (Same.new (o := .lst [.non, .bl true, .bl false, .int 0, .int 1, .int (-1), .int (10 ^ Int.toNat 30), .str "", .str "x", .str "0", .ref t1, .ref t2, .ref t3, .ref t4, .ref t5, .ref t6, .ref t7, .ref t8]) m1)
    have A9 := DqA.same (off_same (Same.but (Same.new (o := .lst [.non, .bl true, .bl false, .int 0, .int 1, .int (-1), .int (10 ^ Int.toNat 30), .str "", .str "x", .str "0", .ref t1, .ref t2, .ref t3, .ref t4, .ref t5, .ref t6, .ref t7, .ref t8]) m1) p)) A8
    have EL : (upd H8 L1 (.lst [.non, .bl true, .bl false, .int 0, .int 1, .int (-1), .int (10 ^ Int.toNat 30), .str "", .str "x", .str "0", .ref t1, .ref t2, .ref t3, .ref t4, .ref t5, .ref t6, .ref t7, .ref t8])) L1 = some (.lst [.non, .bl true, .bl false, .int 0, .int 1, .int (-1), .int (10 ^ Int.toNat 30), .str "", .str "x", .str "0", .ref t1, .ref t2, .ref t3, .ref t4, .ref t5, .ref t6, .ref t7, .ref t8]) := upd_same
    generalize upd H8 L1 (.lst [.non, .bl true, .bl false, .int 0, .int 1, .int (-1), .int (10 ^ Int.toNat 30), .str "", .str "x", .str "0", .ref t1, .ref t2, .ref t3, .ref t4, .ref t5, .ref t6, .ref t7, .ref t8]) = H9 at S9 P9 A9 EL
    refine ⟨_, rfl, ?_⟩
    refine ⟨by show 2 ≤ sizeLine; decide, fun t10 n10 => ?_⟩
    have S10 := Same.mut (o := .tup [.int 0, .bl true]) S9 (S9.free n10)
    have P10 := P9.same (Same.new (o := .tup [.int 0, .bl true]) n10)
    have A10 := grow (o := .tup [.int 0, .bl true]) (d := .tuple [.int 0, .bool true]) A9 P9 n10 fun e => .tup e (.cons (.int _) (.cons (.bl _) .nil))
    have EL := (Same.new (o := .tup [.int 0, .bl true]) n10) _ _ EL
    generalize upd H9 t10 (.tup [.int 0, .bl true]) = H10 at S10 P10 A10 EL
    refine ⟨_, rfl, by show 2 ≤ sizeLine; decide, fun t11 n11 => ?_⟩
    have S11 := Same.mut (o := .tup [.int (-1), .int 2]) S10 (S10.free n11)
    have P11 := P10.same (Same.new (o := .tup [.int (-1), .int 2]) n11)
    have A11 := grow (o := .tup [.int (-1), .int 2]) (d := .tuple [.int (-1), .int 2]) A10 P10 n11 fun e => .tup e (.cons (.int _) (.cons (.int _) .nil))
    have EL := (Same.new (o := .tup [.int (-1), .int 2]) n11) _ _ EL
    generalize upd H10 t11 (.tup [.int (-1), .int 2]) = H11 at S11 P11 A11 EL
    refine ⟨by show 2 ≤ sizeLine; decide, fun t12 n12 => ?_⟩
    have S12 := Same.mut (o := .tup [.int 0, .int 1000000]) S11 (S11.free n12)
    have P12 := P11.same (Same.new (o := .tup [.int 0, .int 1000000]) n12)
    have A12 := grow (o := .tup [.int 0, .int 1000000]) (d := .tuple [.int 0, .int 1000000]) A11 P11 n12 fun e => .tup e (.cons (.int _) (.cons (.int _) .nil))
    have EL := (Same.new (o := .tup [.int 0, .int 1000000]) n12) _ _ EL
    generalize upd H11 t12 (.tup [.int 0, .int 1000000]) = H12 at S12 P12 A12 EL
    refine ⟨by show 2 ≤ sizeLine; decide, fun t13 n13 => ?_⟩
    have S13 := Same.mut (o := .tup [.int 0, .int 1000001]) S12 (S12.free n13)
    have P13 := P12.same (Same.new (o := .tup [.int 0, .int 1000001]) n13)
    have A13 := grow (o := .tup [.int 0, .int 1000001]) (d := .tuple [.int 0, .int 1000001]) A12 P12 n13 fun e => .tup e (.cons (.int _) (.cons (.int _) .nil))
    have EL := (Same.new (o := .tup [.int 0, .int 1000001]) n13) _ _ EL
    generalize upd H12 t13 (.tup [.int 0, .int 1000001]) = H13 at S13 P13 A13 EL
    refine ⟨by show 2 ≤ sizeLine; decide, fun t14 n14 => ?_⟩
    have S14 := Same.mut (o := .tup [.int 999999, .int 1000000]) S13 (S13.free n14)
    have P14 := P13.same (Same.new (o := .tup [.int 999999, .int 1000000]) n14)
    have A14 := grow (o := .tup [.int 999999, .int 1000000]) (d := .tuple [.int 999999, .int 1000000]) A13 P13 n14 fun e => .tup e (.cons (.int _) (.cons (.int _) .nil))
    have EL := (Same.new (o := .tup [.int 999999, .int 1000000]) n14) _ _ EL
    generalize upd H13 t14 (.tup [.int 999999, .int 1000000]) = H14 at S14 P14 A14 EL
    refine ⟨by show 2 ≤ sizeLine; decide, fun t15 n15 => ?_⟩
    have S15 := Same.mut (o := .tup [.int 0, .int 1]) S14 (S14.free n15)
    have P15 := P14.same (Same.new (o := .tup [.int 0, .int 1]) n15)
    have A15 := DqA.same (off_same (Same.but (Same.new (o := .tup [.int 0, .int 1]) n15) p)) A14
    have EL := (Same.new (o := .tup [.int 0, .int 1]) n15) _ _ EL
    have D15 : Dq K (off p (upd H14 t15 (.tup [.int 0, .int 1]))) (.ref t15) (.tuple [.int 0, .int 1]) := .tup (by rw [off_ne (P14.ne n15)]; exact upd_same) (.cons (.int _) (.cons (.int _) .nil))
    generalize upd H14 t15 (.tup [.int 0, .int 1]) = H15 at S15 P15 A15 EL D15
    refine ⟨by show 1 ≤ sizeLine; decide, fun t16 n16 => ?_⟩
    have S16 := Same.mut (o := .tup [.ref t15]) S15 (S15.free n16)
    have P16 := P15.same (Same.new (o := .tup [.ref t15]) n16)
    have A16 := grow (o := .tup [.ref t15]) (d := .tuple [.tuple [.int 0, .int 1]]) A15 P15 n16 fun e => .tup e (.cons (stay D15 n16) .nil)
    have EL := (Same.new (o := .tup [.ref t15]) n16) _ _ EL
    generalize upd H15 t16 (.tup [.ref t15]) = H16 at S16 P16 A16 EL
    refine ⟨by show 3 ≤ sizeLine; decide, fun t17 n17 => ?_⟩
    have S17 := Same.mut (o := .tup [.int 0, .int 1, .int 2]) S16 (S16.free n17)
    have P17 := P16.same (Same.new (o := .tup [.int 0, .int 1, .int 2]) n17)
    have A17 := grow (o := .tup [.int 0, .int 1, .int 2]) (d := .tuple [.int 0, .int 1, .int 2]) A16 P16 n17 fun e => .tup e (.cons (.int _) (.cons (.int _) (.cons (.int _) .nil)))
    have EL := (Same.new (o := .tup [.int 0, .int 1, .int 2]) n17) _ _ EL
    generalize upd H16 t17 (.tup [.int 0, .int 1, .int 2]) = H17 at S17 P17 A17 EL
    refine ⟨by show 7 ≤ sizeLine; decide, fun L2 m2 => ?_⟩
    have S18 := Same.mut (o := .lst [.ref t10, .ref t11, .ref t12, .ref t13, .ref t14, .ref t16, .ref t17]) S17 (S17.free m2)
    have P18 := P17.same (Same.new (o := .lst [.ref t10, .ref t11, .ref t12, .ref t13, .ref t14, .ref t16, .ref t17]) m2)
    have A18 := DqA.same (off_same (Same.but (Same.new (o := .lst [.ref t10, .ref t11, .ref t12, .ref t13, .ref t14, .ref t16, .ref t17]) m2) p)) A17
    have EL := (Same.new (o := .lst [.ref t10, .ref t11, .ref t12, .ref t13, .ref t14, .ref t16, .ref t17]) m2) _ _ EL
    have EM : (upd H17 L2 (.lst [.ref t10, .ref t11, .ref t12, .ref t13, .ref t14, .ref t16, .ref t17])) L2 = some (.lst [.ref t10, .ref t11, .ref t12, .ref t13, .ref t14, .ref t16, .ref t17]) := upd_same
    generalize upd H17 L2 (.lst [.ref t10, .ref t11, .ref t12, .ref t13, .ref t14, .ref t16, .ref t17]) = H18 at S18 P18 A18 EL EM
    refine ⟨L1, L2, _, _, rfl, rfl, EL, EM, (by show 25 ≤ sizeLine; decide), fun L3 m3 => ?_⟩
    have S19 := Same.mut (o := .lst ([.non, .bl true, .bl false, .int 0, .int 1, .int (-1), .int (10 ^ Int.toNat 30), .str "", .str "x", .str "0", .ref t1, .ref t2, .ref t3, .ref t4, .ref t5, .ref t6, .ref t7, .ref t8] ++ [.ref t10, .ref t11, .ref t12, .ref t13, .ref t14, .ref t16, .ref t17])) S18 (S18.free m3)
    have P19 := P18.same (Same.new (o := .lst ([.non, .bl true, .bl false, .int 0, .int 1, .int (-1), .int (10 ^ Int.toNat 30), .str "", .str "x", .str "0", .ref t1, .ref t2, .ref t3, .ref t4, .ref t5, .ref t6, .ref t7, .ref t8] ++ [.ref t10, .ref t11, .ref t12, .ref t13, .ref t14, .ref t16, .ref t17])) m3)
    have A19 : DqA K (off p (upd H18 L3 (.lst ([.non, .bl true, .bl false, .int 0, .int 1, .int (-1), .int (10 ^ Int.toNat 30), .str "", .str "x", .str "0", .ref t1, .ref t2, .ref t3, .ref t4, .ref t5, .ref t6, .ref t7, .ref t8] ++ [.ref t10, .ref t11, .ref t12, .ref t13, .ref t14, .ref t16, .ref t17])))) ([.non, .bl true, .bl false, .int 0, .int 1, .int (-1), .int (10 ^ Int.toNat 30), .str "", .str "x", .str "0", .ref t1, .ref t2, .ref t3, .ref t4, .ref t5, .ref t6, .ref t7, .ref t8] ++ [.ref t10, .ref t11, .ref t12, .ref t13, .ref t14, .ref t16, .ref t17]) oddDs := DqA.same (off_same (Same.but (Same.new (o := .lst ([.non, .bl true, .bl false, .int 0, .int 1, .int (-1), .int (10 ^ Int.toNat 30), .str "", .str "x", .str "0", .ref t1, .ref t2, .ref t3, .ref t4, .ref t5, .ref t6, .ref t7, .ref t8] ++ [.ref t10, .ref t11, .ref t12, .ref t13, .ref t14, .ref t16, .ref t17])) m3) p)) A18
    have E3 : (upd H18 L3 (.lst ([.non, .bl true, .bl false, .int 0, .int 1, .int (-1), .int (10 ^ Int.toNat 30), .str "", .str "x", .str "0", .ref t1, .ref t2, .ref t3, .ref t4, .ref t5, .ref t6, .ref t7, .ref t8] ++ [.ref t10, .ref t11, .ref t12, .ref t13, .ref t14, .ref t16, .ref t17]))) L3 = some (.lst ([.non, .bl true, .bl false, .int 0, .int 1, .int (-1), .int (10 ^ Int.toNat 30), .str "", .str "x", .str "0", .ref t1, .ref t2, .ref t3, .ref t4, .ref t5, .ref t6, .ref t7, .ref t8] ++ [.ref t10, .ref t11, .ref t12, .ref t13, .ref t14, .ref t16, .ref t17])) := upd_same
    have n3p := P18.ne m3
    generalize upd H18 L3 (.lst ([.non, .bl true, .bl false, .int 0, .int 1, .int (-1), .int (10 ^ Int.toNat 30), .str "", .str "x", .str "0", .ref t1, .ref t2, .ref t3, .ref t4, .ref t5, .ref t6, .ref t7, .ref t8] ++ [.ref t10, .ref t11, .ref t12, .ref t13, .ref t14, .ref t16, .ref t17])) = H19 at S19 P19 A19 E3
    refine ⟨_, rfl, _, rfl, p, L3, _, B, rfl, P19, E3, n3p, (by show 1 ≤ 25; decide), (by show 25 < 1073741824; decide), by omega, fun H20 x b20 p20 mx => ?_⟩
    obtain ⟨d, md, dq⟩ := DqA.mem (DqA.same (off_same b20) A19) x mx
    have b20 : But p H H20 := But.trans (Same.but S19 p) b20
    have od := odd_base md
    refine ⟨_, rfl, (by show 6 ≤ sizeLine; decide), fun Lr mr => ?_⟩
    have P21 := p20.same (Same.new (o := .lst [.int 0, .int 0, .int 0, .int 1, .int 2, .int 9]) mr)
    have D21 := stay (o := .lst [.int 0, .int 0, .int 0, .int 1, .int 2, .int 9]) dq mr
    have b21 : But p H (upd H20 Lr (.lst [.int 0, .int 0, .int 0, .int 1, .int 2, .int 9])) := But.trans b20 (Same.but (Same.new mr) p)
    refine ⟨p, Lr, _, B + 1, rfl, P21, upd_same, p20.ne mr, (by show 1 ≤ 6; decide), (by show 6 < 1073741824; decide), by omega, fun H22 y b22 p22 my => ?_⟩
    have D22 := Dq.same (off_same b22) D21
    have b22 : But p H H22 := But.trans b21 b22
    obtain ⟨n, rfl, n0, n9⟩ : ∃ n : Int, y = .int n ∧ 0 ≤ n ∧ n ≤ 9 := by
      rcases List.mem_cons.mp my with rfl | my
      · exact ⟨_, rfl, by decide, by decide⟩
      rcases List.mem_cons.mp my with rfl | my
      · exact ⟨_, rfl, by decide, by decide⟩
      rcases List.mem_cons.mp my with rfl | my
      · exact ⟨_, rfl, by decide, by decide⟩
      rcases List.mem_cons.mp my with rfl | my
      · exact ⟨_, rfl, by decide, by decide⟩
      rcases List.mem_cons.mp my with rfl | my
      · exact ⟨_, rfl, by decide, by decide⟩
      rcases List.mem_cons.mp my with rfl | my
      · exact ⟨_, rfl, by decide, by decide⟩
      cases my
    refine ⟨n, rfl, by omega, by omega, for_range (fun i σ H' => ∃ (v1 v3 : Option V) (x : V) (d : PyData), σ = [some (.ref p), v1, some x, v3] ∧ But p H H' ∧ PotAt H' p (B + 2 + i) ∧ Dq K (off p H') x d ∧ OddD d (oddL i) (2 + i)) ⟨_, none, x, d, rfl, b22, p22.mono (by omega), D22, od⟩ ?_ ?_⟩
    · rintro i σ H3 hi ⟨v1, v3, x, d, rfl, b3, p3, dq, od⟩
      have hi9 : i < 9 := by omega
      refine ⟨_, rfl, _, rfl, (by show 1 ≤ sizeLine; decide), fun a1 m1 => ?_⟩
      have P1 := p3.same (Same.new (o := .tup [x]) m1)
      have b1 := But.trans b3 (Same.but (Same.new (o := .tup [x]) m1) p)
      have D1 := stay (o := .tup [x]) dq m1
      have A1 : DqA K (off p (upd H3 a1 (.tup [x]))) [.ref a1] [.tuple [d]] := DqA.one (.tup (by rw [off_ne (p3.ne m1)]; exact upd_same) (DqA.one D1))
      generalize upd H3 a1 (.tup [x]) = G1 at P1 b1 D1 A1
      refine ⟨_, rfl, (by show 1 ≤ sizeLine; decide), fun a2 m2 => ?_⟩
      have P2 := P1.same (Same.new (o := .lst [x]) m2)
      have b2 := But.trans b1 (Same.but (Same.new (o := .lst [x]) m2) p)
      have D2 := stay (o := .lst [x]) D1 m2
      have A2 := grow (o := .lst [x]) (d := .list [d]) A1 P1 m2 fun e => .lst e (DqA.one D2)
      generalize upd G1 a2 (.lst [x]) = G2 at P2 b2 D2 A2
      intro a3 m3
      refine ⟨_, rfl, upd_same, [(.inr "a", x)], rfl, (by show 1 ≤ 15; decide), ?_⟩
      rw [upd_upd]
      show (fun G3 : Hp => _) (upd G2 a3 (.dK (mergeK [] [(.inr "a", x)])))
      have P3 := P2.same (Same.new (o := .dK (mergeK [] [(.inr "a", x)])) m3)
      have b3 := But.trans b2 (Same.but (Same.new (o := .dK (mergeK [] [(.inr "a", x)])) m3) p)
      have D3 := stay (o := .dK (mergeK [] [(.inr "a", x)])) D2 m3
      have A3 := grow (o := .dK (mergeK [] [(.inr "a", x)])) (d := .dict [(.str "a", d)]) A2 P2 m3 fun e => .dct (kvs := [(.inr "a", x)]) e rfl (DqA.one D3)
      generalize upd G2 a3 (.dK (mergeK [] [(.inr "a", x)])) = G3 at P3 b3 D3 A3
      refine ⟨_, rfl, _, rfl, (by show 2 ≤ sizeLine; decide), fun a4 m4 => ?_⟩
      have P4 := P3.same (Same.new (o := .tup [x, x]) m4)
      have b4 := But.trans b3 (Same.but (Same.new (o := .tup [x, x]) m4) p)
      have D4 := stay (o := .tup [x, x]) D3 m4
      have A4 := grow (o := .tup [x, x]) (d := .tuple [d, d]) A3 P3 m4 fun e => .tup e (.cons D4 (DqA.one D4))
      generalize upd G3 a4 (.tup [x, x]) = G4 at P4 b4 D4 A4
      refine ⟨_, rfl, (by show 2 ≤ sizeLine; decide), fun a5 m5 => ?_⟩
      have P5 := P4.same (Same.new (o := .tup [.int 1, x]) m5)
      have b5 := But.trans b4 (Same.but (Same.new (o := .tup [.int 1, x]) m5) p)
      have D5 := stay (o := .tup [.int 1, x]) D4 m5
      have A5 := grow (o := .tup [.int 1, x]) (d := .tuple [.int 1, d]) A4 P4 m5 fun e => .tup e (.cons (.int 1) (DqA.one D5))
      generalize upd G4 a5 (.tup [.int 1, x]) = G5 at P5 b5 D5 A5
      refine ⟨by show 5 ≤ sizeLine; decide, fun L mL => ?_⟩
      have P6 := P5.same (Same.new (o := .lst [.ref a1, .ref a2, .ref a3, .ref a4, .ref a5]) mL)
      have b6 := But.trans b5 (Same.but (Same.new (o := .lst [.ref a1, .ref a2, .ref a3, .ref a4, .ref a5]) mL) p)
      have A6 : DqA K (off p (upd G5 L (.lst [.ref a1, .ref a2, .ref a3, .ref a4, .ref a5]))) [.ref a1, .ref a2, .ref a3, .ref a4, .ref a5] [.tuple [d], .list [d], .dict [(.str "a", d)], .tuple [d, d], .tuple [.int 1, d]] := DqA.same (off_same (Same.but (Same.new mL) p)) A5
      refine ⟨p, L, _, _, rfl, P6, upd_same, P5.ne mL, (by show 1 ≤ 5; decide), (by show 5 < 1073741824; decide), by omega, fun H7 y b7 p7 my => ?_⟩
      obtain ⟨d7, m7, q7⟩ := DqA.mem (DqA.same (off_same b7) A6) y my
      refine ⟨_, _, y, d7, rfl, But.trans b6 b7, p7.mono (by omega), q7, ?_⟩
      show OddD d7 (2 * oddL i + 20) (2 + i + 1)
      rcases List.mem_cons.mp m7 with rfl | m7
      · exact odd_t1 od
      rcases List.mem_cons.mp m7 with rfl | m7
      · exact odd_l1 od
      rcases List.mem_cons.mp m7 with rfl | m7
      · exact odd_d1 od
      rcases List.mem_cons.mp m7 with rfl | m7
      · exact odd_t2 od
      rcases List.mem_cons.mp m7 with rfl | m7
      · exact odd_i1 od
      cases m7
    · rintro σ H3 ⟨v1, v3, x, d, rfl, b3, p3, dq, od⟩
      have hn : Int.toNat n ≤ 9 := by omega
      exact ⟨_, rfl, k _ x d b3 (p3.mono (by omega)) dq (od.mono (oddL9 _ hn) (by omega))⟩
theorem ok_law_is_couple (T : Tx7 P K mg C CB CK fB)    {f : Addr} {fd : FuncData} (F : FunD K "_law_is_couple" "_law_is_couple" (defArgs s_law_is_couple) (defBody s_law_is_couple) (defScope s_law_is_couple) [] [] f fd) : FnOk P w K mg base CX0 1 f fd ["_law_thing"] (spCoup K) := by
  refine F.ok sc_law_is_couple (fun vs H Q E h => ?_) (fun cdv A outer s H vs Q E hr h => ?_)
  · obtain ⟨x, d, rfl, _⟩ := h
    rfl
  · have nd := sc_law_is_couple.nd
    have hu := hu_of hr
    refine ⟨_, PSs.nox (pss_cons (ps_if (PW.pt (pw_or (pt_not (pt_val (pe_callB (id := "isinstance") (r := rIsi K) call_isi (by rfl) T.n_isinstance (by decide +kernel) (pa_cons (pv 0) (pa_cons (pe_bltn (by rfl) T.n_tuple (by decide +kernel) (u := .type "tuple") (v := .ty "tuple") rfl) pa_nil))))) (pw_or1 (pt_cmpR op_ne (pe_callB (id := "len") call_len (by rfl) T.n_len (by decide +kernel) (pa_cons (pv 0) pa_nil)) pe_int (nomark _))))) (pss_one (ps_ret pe_bl)) pss_nil)
      (pss_cons (ps_if (pt_not (pt_val (pe_callB (id := "all") (cr_all rfl) (by rfl) T.n_all (by decide +kernel) (pa_cons (pe_lc (own := [("_law_one", 1)]) (g := (gName 1)) (tt := tYes) rfl nd (pi_tup (pv 0)) (blkOk_by (N := N_law_is_couple) (sc := defScope s_law_is_couple) (own := [("_law_one", 1)]) (by decide +kernel)) (fun _ _ _ _ _ => (pg_name (i := 1) nd rfl (by first | exact Or.inl rfl | exact Or.inr rfl))) (fun _ _ _ _ _ => pts_nil) (fun _ _ _ _ _ => (pe_and (pe_callB (id := "isinstance") (r := rIsi K) call_isi (by rfl) T.n_isinstance (by decide +kernel) (pa_cons (pv 1) (pa_cons (pe_bltn (by rfl) T.n_int (by decide +kernel) (u := .type "int") (v := .ty "int") rfl) pa_nil))) (pe_one (pe_not (pe_callB (id := "isinstance") (r := rIsi K) call_isi (by rfl) T.n_isinstance (by decide +kernel) (pa_cons (pv 1) (pa_cons (pe_bltn (by rfl) T.n_bool (by decide +kernel) (u := .type "bool") (v := .ty "bool") rfl) pa_nil)))))))) pa_nil)))) (pss_one (ps_ret pe_bl)) pss_nil)
      (pss_one (ps_ret (pe_chain3 op_le op_lt op_le pe_int (pe_ix ix_tup (pv 0) pe_int (fun _ _ => rfl)) (pe_ix ix_tup (pv 0) pe_int (fun _ _ => rfl)) pe_int))))), ?_⟩
    obtain ⟨x, d, rfl, hd, k⟩ := h
    have no : spanB d = false → ∀ H', Same H H' → Q (.bl false) H' := fun e H' s => by
      have q := k H' s
      rw [e] at q
      exact q
    refine ⟨_, rfl, _, _, _, _, isT d, rfl, .ty _, dq_ty hd, kit_tup d, isT d, rfl, ?_⟩
    by_cases e : isT d = true
    · rw [e]
      show if (!true) = true then _ else _
      refine iteNo ?_
      cases hd with
      | non => cases e
      | bl b => cases e
      | int i => cases e
      | str x => cases e
      | lst _ _ => cases e
      | dct _ _ _ => cases e
      | tup ht ha =>
        rename_i a xs ds
        have ll := DqA.len ha
        refine ⟨_, rfl, _, xs.length, rfl, .inr ⟨_, SqT.of ht, rfl⟩, rfl, _, rfl, ?_⟩
        by_cases c : xs.length = 2
        · rw [show (!decide (V.int (xs.length : Nat) = V.int 2)) = false by rw [c]; rfl]
          show if false = true then _ else _
          refine iteF ?_
          have hz : 2 < sizeLine := by decide
          refine ⟨_, rfl, a, rfl, ⟨_, SqT.of ht⟩, ?_⟩
          intro D nD
          refine lc_dqs (v := fun d => .bl (intB d)) (Walks.tup (SqT.of ht)) ha (Same.refl H) nD (by omega) (fun H' x d Nx hm s hd hn => ?_) fun H1 s1 _ e1 => ?_
          · refine ⟨rfl, yesT ⟨_, rfl, _, _, _, _, isI d, rfl, .ty _, dq_ty hd, kit_int d, isI d, rfl, ?_⟩⟩
            rw [← int_and d] at hn
            by_cases e : isI d = true
            · rw [e] at hn ⊢
              show if true = true then _ else _
              refine iteT ⟨_, rfl, _, _, _, _, isB d, rfl, .ty _, dq_ty hd, kit_bool d, isB d, rfl, ?_⟩
              rw [Bool.true_and] at hn
              exact hn
            · have e : isI d = false := by simpa using e
              rw [e] at hn ⊢
              show if false = true then _ else _
              refine iteF ?_
              rw [Bool.false_and] at hn
              exact hn
          · have hall : ((ds.map intB).all id) = ds.all intB := by rw [List.all_map]; rfl
            refine ⟨D, ds.map intB, rfl, SqL.of (by rw [List.map_map]; exact e1), ds.all intB, congrArg V.bl hall, ?_⟩
            cases ha with
            | nil => cases c
            | cons h1 r =>
              cases r with
              | nil => cases c
              | cons h2 r =>
                cases r with
                | cons h3 r => simp at c
                | nil =>
                  rename_i x1 d1 x2 d2
                  have ea : List.all [d1, d2] intB = (intB d1 && intB d2) := by simp
                  rw [ea]
                  by_cases e2 : (intB d1 && intB d2) = true
                  · rw [e2]
                    show if (!true) = true then _ else _
                    refine iteNo ?_
                    rw [Bool.and_eq_true] at e2
                    obtain ⟨i, rfl, rfl⟩ := dq_int h1 e2.1
                    obtain ⟨j, rfl, rfl⟩ := dq_int h2 e2.2
                    have q := k H1 s1
                    have ht1 := s1 _ _ ht
                    have qq : spanB (.tuple [.int i, .int j]) = decide (0 ≤ i ∧ i < j ∧ j ≤ 1000000) := rfl
                    rw [qq] at q
                    refine ⟨_, rfl, a, _, 0, _, rfl, rfl, SqT.of ht1, atI_two0 _ _, _, _, rfl, rfl, decide ((0 : Int) ≤ i), rfl, ?_⟩
                    by_cases c1 : 0 ≤ i
                    · rw [decide_eq_true c1]
                      refine iteT ⟨_, rfl, a, _, 1, _, rfl, rfl, SqT.of ht1, atI_two1 _ _, _, _, rfl, rfl, decide (i < j), rfl, ?_⟩
                      by_cases c2 : i < j
                      · rw [decide_eq_true c2]
                        refine iteT ⟨_, _, rfl, rfl, ?_⟩
                        rw [show decide (0 ≤ i ∧ i < j ∧ j ≤ 1000000) = decide (j ≤ 1000000) by by_cases c3 : j ≤ 1000000 <;> simp [c1, c2, c3]] at q
                        exact q
                      · rw [decide_eq_false c2]
                        refine iteF ?_
                        rw [decide_eq_false (fun z => c2 z.2.1)] at q
                        exact q
                    · rw [decide_eq_false c1]
                      refine iteF ?_
                      rw [decide_eq_false (fun z => c1 z.1)] at q
                      exact q
                  · have e2 : (intB d1 && intB d2) = false := by simpa using e2
                    rw [e2]
                    show if (!false) = true then _ else _
                    refine iteT (no ?_ _ s1)
                    unfold spanB
                    split
                    · rename_i a b heq
                      cases heq
                      cases e2
                    · rfl
        · rw [show (!decide (V.int (xs.length : Nat) = V.int 2)) = true by rw [decide_eq_false (fun z => c (by have := V.int.inj z; omega))]; rfl]
          show if true = true then _ else _
          refine iteT ?_
          refine no ?_ _ (Same.refl H)
          unfold spanB
          split
          · rename_i a b heq
            cases heq
            exact absurd ll c
          · rfl
    · have e : isT d = false := by simpa using e
      rw [e]
      show if (!false) = true then _ else _
      refine iteT ?_
      refine iteT ?_
      refine no ?_ _ (Same.refl H)
      cases d <;> first | rfl | cases e
theorem ok_law_made (T : Tx7 P K mg C CB CK fB) (S : SpX7 P w K mg base C fI CB)   {f : Addr} {fd : FuncData} (F : FunD K "_law_made" "_law_made" (defArgs s_law_made) (defBody s_law_made) (defScope s_law_made) [] [] f fd) : FnOk P w K mg base (L2.CX P w) 5 f fd ["_law_some"] (spMadeL K C CB) := by
  refine F.ok sc_law_made (fun vs H Q E h => ?_) (fun cdv A outer s H vs Q E hr h => ?_)
  · obtain ⟨l, xs, ds, rfl, _⟩ := h
    rfl
  · skip
    have nd := sc_law_made.nd
    have hu := hu_of hr
    have tk : Takes (cxOf (L2.CX P w) P w K mg base N_law_made "_law_made" (defScope s_law_made) f cdv A outer s H E) (fun cls d _ H' => E cls d H') := takes_of rfl rfl rfl rfl
    have ps : Passes (L2.CX P w) (cxOf (L2.CX P w) P w K mg base N_law_made "_law_made" (defScope s_law_made) f cdv A outer s H E) E := passes_call tk fun _ _ _ _ h => h
    refine ⟨_, (pss_cons (ps_if (pt_cmpR op_lt (pe_callB (id := "len") call_len (by rfl) T.n_len (by decide +kernel) (pa_cons (pv 0) pa_nil)) pe_int (nomark _)) (pss_one (ps_ret (pe_ifExp (pt_cmpR (op_eqNil hr.units) (pv 0) (pe_lst pa_nil) (nomark _)) (pe_spx0 S ps hr rfl) (pe_ifExp (pt_cmpR op_eq (pe_callB (id := "len") call_len (by rfl) T.n_len (by decide +kernel) (pa_cons (pv 0) pa_nil)) pe_int (nomark _)) (pe_spx S ps hr rfl (pa_cons (pe_ix ix_list (pv 0) pe_int (fun _ _ => rfl)) pa_nil)) (pe_spx S ps hr rfl (pa_cons (pe_ix ix_list (pv 0) pe_int (fun _ _ => rfl)) (pa_cons (pe_ix ix_list (pv 0) pe_int (fun _ _ => rfl)) pa_nil))))))) pss_nil)
      (pss_cons (ps_if (pt_cmpR op_lt (pe_callB (id := "len") call_len (by rfl) T.n_len (by decide +kernel) (pa_cons (pv 0) pa_nil)) pe_int (nomark _)) (pss_one (ps_ret (pe_ifExp (pt_cmpR op_eq (pe_callB (id := "len") call_len (by rfl) T.n_len (by decide +kernel) (pa_cons (pv 0) pa_nil)) pe_int (nomark _)) (pe_spx S ps hr rfl (pa_cons (pe_ix ix_list (pv 0) pe_int (fun _ _ => rfl)) (pa_cons (pe_ix ix_list (pv 0) pe_int (fun _ _ => rfl)) (pa_cons (pe_ix ix_list (pv 0) pe_int (fun _ _ => rfl)) pa_nil)))) (pe_spx S ps hr rfl (pa_cons (pe_ix ix_list (pv 0) pe_int (fun _ _ => rfl)) (pa_cons (pe_ix ix_list (pv 0) pe_int (fun _ _ => rfl)) (pa_cons (pe_ix ix_list (pv 0) pe_int (fun _ _ => rfl)) (pa_cons (pe_ix ix_list (pv 0) pe_int (fun _ _ => rfl)) pa_nil)))))))) pss_nil)
      (pss_cons (ps_if (pt_cmpR op_eq (pe_callB (id := "len") call_len (by rfl) T.n_len (by decide +kernel) (pa_cons (pv 0) pa_nil)) pe_int (nomark _)) (pss_one (ps_ret (pe_spx S ps hr rfl (pa_cons (pe_ix ix_list (pv 0) pe_int (fun _ _ => rfl)) (pa_cons (pe_ix ix_list (pv 0) pe_int (fun _ _ => rfl)) (pa_cons (pe_ix ix_list (pv 0) pe_int (fun _ _ => rfl)) (pa_cons (pe_ix ix_list (pv 0) pe_int (fun _ _ => rfl)) (pa_cons (pe_ix ix_list (pv 0) pe_int (fun _ _ => rfl)) pa_nil)))))))) pss_nil)
      (pss_one (ps_ret (pe_spx S ps hr rfl (pa_cons (pe_ix ix_list (pv 0) pe_int (fun _ _ => rfl)) (pa_cons (pe_ix ix_list (pv 0) pe_int (fun _ _ => rfl)) (pa_cons (pe_ix ix_list (pv 0) pe_int (fun _ _ => rfl)) (pa_cons (pe_ix ix_list (pv 0) pe_int (fun _ _ => rfl)) (pa_cons (pe_ix ix_list (pv 0) pe_int (fun _ _ => rfl)) (pa_cons (pe_ix ix_list (pv 0) pe_int (fun _ _ => rfl)) pa_nil)))))))))))), ?_⟩
    obtain ⟨l, xs, ds, rfl, hl, hd, l6, k, kb⟩ := h
    have hz : 6 < sizeLine := by decide
    have hdd := hd
    cases hd with
    | nil =>
      refine ⟨_, rfl, _, _, rfl, .inl ⟨_, SqL.of hl, rfl⟩, _, _, rfl, rfl, _, rfl, ?_⟩
      show if decide (((0 : Nat) : Int) < 3) = true then _ else _
      refine iteT ?_
      refine ⟨_, rfl, Nat.zero_le _, fun e ne => ?_⟩
      have s0 : Same H (upd H e (.lst [])) := Same.new ne
      have he : (upd H e (.lst [])) e = some (.lst []) := upd_same
      generalize upd H e (.lst []) = H0 at s0 he
      have hl0 := s0 _ _ hl
      refine ⟨l, e, _, rfl, rfl, hl0, he, _, rfl, ?_⟩
      refine iteT ?_
      intro x dx nx ndx nex
      refine made_x (vs := []) (ds := []) (DqA.same s0 hdd) (by show 0 < sizeLine; omega) (fun ps e o H2 x u s2 sp cov => k ps e o H2 x u (Same.trans s0 s2) sp cov) (fun bad H2 dd tp s2 hx ht => kb bad H2 dd tp (Same.trans s0 s2) hx ht) x dx nx ndx nex
    | cons h1 hd =>
      rename_i x1 r1 d1 e1
      cases hd with
      | nil =>
        refine ⟨_, rfl, _, _, rfl, .inl ⟨_, SqL.of hl, rfl⟩, _, _, rfl, rfl, _, rfl, ?_⟩
        show if decide (((1 : Nat) : Int) < 3) = true then _ else _
        refine iteT ?_
        refine ⟨_, rfl, Nat.zero_le _, fun e ne => ?_⟩
        have s0 : Same H (upd H e (.lst [])) := Same.new ne
        have he : (upd H e (.lst [])) e = some (.lst []) := upd_same
        generalize upd H e (.lst []) = H0 at s0 he
        have hl0 := s0 _ _ hl
        refine ⟨l, e, _, rfl, rfl, hl0, he, _, rfl, ?_⟩
        refine iteF ?_
        refine ⟨_, rfl, _, _, rfl, .inl ⟨_, SqL.of hl0, rfl⟩, rfl, _, rfl, ?_⟩
        show if decide (V.int ((1 : Nat) : Int) = V.int 1) = true then _ else _
        rw [show decide (V.int ((1 : Nat) : Int) = V.int 1) = true by decide]
        refine iteT ?_
        refine ⟨_, rfl, l, _, 0, _, rfl, rfl, SqL.of hl0, rfl, ?_⟩
        intro x dx nx ndx nex
        refine made_x (vs := [x1]) (ds := [d1]) (DqA.same s0 hdd) (by show 1 < sizeLine; omega) (fun ps e o H2 x u s2 sp cov => k ps e o H2 x u (Same.trans s0 s2) sp cov) (fun bad H2 dd tp s2 hx ht => kb bad H2 dd tp (Same.trans s0 s2) hx ht) x dx nx ndx nex
      | cons h2 hd =>
        rename_i x2 r2 d2 e2
        cases hd with
        | nil =>
          refine ⟨_, rfl, _, _, rfl, .inl ⟨_, SqL.of hl, rfl⟩, _, _, rfl, rfl, _, rfl, ?_⟩
          show if decide (((2 : Nat) : Int) < 3) = true then _ else _
          refine iteT ?_
          refine ⟨_, rfl, Nat.zero_le _, fun e ne => ?_⟩
          have s0 : Same H (upd H e (.lst [])) := Same.new ne
          have he : (upd H e (.lst [])) e = some (.lst []) := upd_same
          generalize upd H e (.lst []) = H0 at s0 he
          have hl0 := s0 _ _ hl
          refine ⟨l, e, _, rfl, rfl, hl0, he, _, rfl, ?_⟩
          refine iteF ?_
          refine ⟨_, rfl, _, _, rfl, .inl ⟨_, SqL.of hl0, rfl⟩, rfl, _, rfl, ?_⟩
          show if decide (V.int ((2 : Nat) : Int) = V.int 1) = true then _ else _
          rw [show decide (V.int ((2 : Nat) : Int) = V.int 1) = false by decide]
          refine iteF ?_
          refine ⟨_, rfl, l, _, 0, _, rfl, rfl, SqL.of hl0, rfl, _, rfl, l, _, 1, _, rfl, rfl, SqL.of hl0, rfl, ?_⟩
          intro x dx nx ndx nex
          refine made_x (vs := [x1, x2]) (ds := [d1, d2]) (DqA.same s0 hdd) (by show 2 < sizeLine; omega) (fun ps e o H2 x u s2 sp cov => k ps e o H2 x u (Same.trans s0 s2) sp cov) (fun bad H2 dd tp s2 hx ht => kb bad H2 dd tp (Same.trans s0 s2) hx ht) x dx nx ndx nex
        | cons h3 hd =>
          rename_i x3 r3 d3 e3
          cases hd with
          | nil =>
            refine ⟨_, rfl, _, _, rfl, .inl ⟨_, SqL.of hl, rfl⟩, _, _, rfl, rfl, _, rfl, ?_⟩
            show if decide (((3 : Nat) : Int) < 3) = true then _ else _
            refine iteF ?_
            refine ⟨_, rfl, _, _, rfl, .inl ⟨_, SqL.of hl, rfl⟩, _, _, rfl, rfl, _, rfl, ?_⟩
            show if decide (((3 : Nat) : Int) < 5) = true then _ else _
            refine iteT ?_
            refine ⟨_, rfl, _, _, rfl, .inl ⟨_, SqL.of hl, rfl⟩, rfl, _, rfl, ?_⟩
            show if decide (V.int ((3 : Nat) : Int) = V.int 3) = true then _ else _
            rw [show decide (V.int ((3 : Nat) : Int) = V.int 3) = true by decide]
            refine iteT ?_
            refine ⟨_, rfl, l, _, 0, _, rfl, rfl, SqL.of hl, rfl, _, rfl, l, _, 1, _, rfl, rfl, SqL.of hl, rfl, _, rfl, l, _, 2, _, rfl, rfl, SqL.of hl, rfl, ?_⟩
            intro x dx nx ndx nex
            refine made_x (vs := [x1, x2, x3]) (ds := [d1, d2, d3]) (DqA.same (Same.refl H) hdd) (by show 3 < sizeLine; omega) (fun ps e o H2 x u s2 sp cov => k ps e o H2 x u (Same.trans (Same.refl H) s2) sp cov) (fun bad H2 dd tp s2 hx ht => kb bad H2 dd tp (Same.trans (Same.refl H) s2) hx ht) x dx nx ndx nex
          | cons h4 hd =>
            rename_i x4 r4 d4 e4
            cases hd with
            | nil =>
              refine ⟨_, rfl, _, _, rfl, .inl ⟨_, SqL.of hl, rfl⟩, _, _, rfl, rfl, _, rfl, ?_⟩
              show if decide (((4 : Nat) : Int) < 3) = true then _ else _
              refine iteF ?_
              refine ⟨_, rfl, _, _, rfl, .inl ⟨_, SqL.of hl, rfl⟩, _, _, rfl, rfl, _, rfl, ?_⟩
              show if decide (((4 : Nat) : Int) < 5) = true then _ else _
              refine iteT ?_
              refine ⟨_, rfl, _, _, rfl, .inl ⟨_, SqL.of hl, rfl⟩, rfl, _, rfl, ?_⟩
              show if decide (V.int ((4 : Nat) : Int) = V.int 3) = true then _ else _
              rw [show decide (V.int ((4 : Nat) : Int) = V.int 3) = false by decide]
              refine iteF ?_
              refine ⟨_, rfl, l, _, 0, _, rfl, rfl, SqL.of hl, rfl, _, rfl, l, _, 1, _, rfl, rfl, SqL.of hl, rfl, _, rfl, l, _, 2, _, rfl, rfl, SqL.of hl, rfl, _, rfl, l, _, 3, _, rfl, rfl, SqL.of hl, rfl, ?_⟩
              intro x dx nx ndx nex
              refine made_x (vs := [x1, x2, x3, x4]) (ds := [d1, d2, d3, d4]) (DqA.same (Same.refl H) hdd) (by show 4 < sizeLine; omega) (fun ps e o H2 x u s2 sp cov => k ps e o H2 x u (Same.trans (Same.refl H) s2) sp cov) (fun bad H2 dd tp s2 hx ht => kb bad H2 dd tp (Same.trans (Same.refl H) s2) hx ht) x dx nx ndx nex
            | cons h5 hd =>
              rename_i x5 r5 d5 e5
              cases hd with
              | nil =>
                refine ⟨_, rfl, _, _, rfl, .inl ⟨_, SqL.of hl, rfl⟩, _, _, rfl, rfl, _, rfl, ?_⟩
                show if decide (((5 : Nat) : Int) < 3) = true then _ else _
                refine iteF ?_
                refine ⟨_, rfl, _, _, rfl, .inl ⟨_, SqL.of hl, rfl⟩, _, _, rfl, rfl, _, rfl, ?_⟩
                show if decide (((5 : Nat) : Int) < 5) = true then _ else _
                refine iteF ?_
                refine ⟨_, rfl, _, _, rfl, .inl ⟨_, SqL.of hl, rfl⟩, rfl, _, rfl, ?_⟩
                show if decide (V.int ((5 : Nat) : Int) = V.int 5) = true then _ else _
                rw [show decide (V.int ((5 : Nat) : Int) = V.int 5) = true by decide]
                refine iteT ?_
                refine ⟨_, rfl, l, _, 0, _, rfl, rfl, SqL.of hl, rfl, _, rfl, l, _, 1, _, rfl, rfl, SqL.of hl, rfl, _, rfl, l, _, 2, _, rfl, rfl, SqL.of hl, rfl, _, rfl, l, _, 3, _, rfl, rfl, SqL.of hl, rfl, _, rfl, l, _, 4, _, rfl, rfl, SqL.of hl, rfl, ?_⟩
                intro x dx nx ndx nex
                refine made_x (vs := [x1, x2, x3, x4, x5]) (ds := [d1, d2, d3, d4, d5]) (DqA.same (Same.refl H) hdd) (by show 5 < sizeLine; omega) (fun ps e o H2 x u s2 sp cov => k ps e o H2 x u (Same.trans (Same.refl H) s2) sp cov) (fun bad H2 dd tp s2 hx ht => kb bad H2 dd tp (Same.trans (Same.refl H) s2) hx ht) x dx nx ndx nex
              | cons h6 hd =>
                rename_i x6 r6 d6 e6
                cases hd with
                | nil =>
                  refine ⟨_, rfl, _, _, rfl, .inl ⟨_, SqL.of hl, rfl⟩, _, _, rfl, rfl, _, rfl, ?_⟩
                  show if decide (((6 : Nat) : Int) < 3) = true then _ else _
                  refine iteF ?_
                  refine ⟨_, rfl, _, _, rfl, .inl ⟨_, SqL.of hl, rfl⟩, _, _, rfl, rfl, _, rfl, ?_⟩
                  show if decide (((6 : Nat) : Int) < 5) = true then _ else _
                  refine iteF ?_
                  refine ⟨_, rfl, _, _, rfl, .inl ⟨_, SqL.of hl, rfl⟩, rfl, _, rfl, ?_⟩
                  show if decide (V.int ((6 : Nat) : Int) = V.int 5) = true then _ else _
                  rw [show decide (V.int ((6 : Nat) : Int) = V.int 5) = false by decide]
                  refine iteF ?_
                  refine ⟨_, rfl, l, _, 0, _, rfl, rfl, SqL.of hl, rfl, _, rfl, l, _, 1, _, rfl, rfl, SqL.of hl, rfl, _, rfl, l, _, 2, _, rfl, rfl, SqL.of hl, rfl, _, rfl, l, _, 3, _, rfl, rfl, SqL.of hl, rfl, _, rfl, l, _, 4, _, rfl, rfl, SqL.of hl, rfl, _, rfl, l, _, 5, _, rfl, rfl, SqL.of hl, rfl, ?_⟩
                  intro x dx nx ndx nex
                  refine made_x (vs := [x1, x2, x3, x4, x5, x6]) (ds := [d1, d2, d3, d4, d5, d6]) (DqA.same (Same.refl H) hdd) (by show 6 < sizeLine; omega) (fun ps e o H2 x u s2 sp cov => k ps e o H2 x u (Same.trans (Same.refl H) s2) sp cov) (fun bad H2 dd tp s2 hx ht => kb bad H2 dd tp (Same.trans (Same.refl H) s2) hx ht) x dx nx ndx nex
                | cons h7 hd => simp at l6
theorem ok_law_met (T : Tx7 P K mg C CB CK fB)  {f_law_made : Addr} {fd_law_made : FuncData} (D_law_made : CalX P w K mg base 5 "_law_made" ["_law_some"] (spMadeL K C CB) f_law_made fd_law_made)  {f : Addr} {fd : FuncData} (F : FunD K "_law_met" "_law_met" (defArgs s_law_met) (defBody s_law_met) (defScope s_law_met) [] [] f fd) : FnG P w K mg base CX0 6 f fd ["_law_some"] (spMet K C) := by
  refine fnG_of F sc_law_met (fun vs H Q E h => ?_) (fun cdv A outer s H vs Q E gd hr h => ?_)
  · obtain ⟨l, xs, ds, rfl, _⟩ := h
    rfl
  · have nd := sc_law_met.nd
    have hu := hu_of hr
    refine ⟨_, PSs.nox (pss_cons (ps_asg (pe_tup (pa_cons pe_non (pa_cons pe_non pa_nil))) (pg_tup rfl (pgs_cons (pg_name (i := 1) nd rfl (by first | exact Or.inl rfl | exact Or.inr rfl)) (pgs_cons (pg_name (i := 2) nd rfl (by first | exact Or.inl rfl | exact Or.inr rfl)) pgs_nil))))
      (pss_cons (ps_try_keep (i := 3) rfl rfl nd rfl rfl ⟨rfl, by decide, .inl T.c_Keeper⟩ rfl (fun W pn xe tk po => (pss_one (ps_set (i := 2) nd rfl (by first | exact Or.inl rfl | exact Or.inr rfl) (pe_cS D_law_made hr rfl (passAt tk) (pa_cons (pv 0) pa_nil))))) (fun a oe cls d pn hz hf => (pss_one (ps_set (i := 1) nd rfl (by first | exact Or.inl rfl | exact Or.inr rfl) (pv 3)))))
      (pss_cons (ps_if (pt_cmp (pc_isN (pv 1)) rfl) (pss_one (ps_ret (pe_tup (pa_cons pe_str (pa_cons (pv 2) pa_nil))))) pss_nil)
      (pss_cons (ps_set (i := 4) nd rfl (by first | exact Or.inl rfl | exact Or.inr rfl) (pe_and (pe_callB call_isX (by rfl) T.n_isinstance (by decide +kernel) (pa_cons (pv 1) (pa_cons (pe_glob (v := .ref CB) rfl T.c_Bad rfl) pa_nil))) (pe_one (pe_callB call_isX (by rfl) T.n_isinstance (by decide +kernel) (pa_cons (pv 1) (pa_cons (pe_bltn (by rfl) T.n_ValueError (by decide +kernel) (u := .type "ValueError") (v := .ty "ValueError") rfl) pa_nil))))))
      (pss_one (ps_ret (pe_ifExp (pt_val (pv 4)) (pe_tup (pa_cons pe_str (pa_cons (pe_callB (id := "repr") (call_reprQ gd hr.units) (by rfl) T.n_repr (by decide +kernel) (pa_cons (pe_xk (pv 1)) pa_nil)) pa_nil))) (pe_tup (pa_cons pe_str (pa_cons pe_non pa_nil)))))))))), ?_⟩
    obtain ⟨l, xs, ds, rfl, hl, hd, l6, sh, dep, lz, k, kb⟩ := h
    refine ⟨by show 2 ≤ sizeLine; decide, fun t0 n0 => ?_⟩
    have s0 : Same H (upd H t0 (.tup [.non, .non])) := Same.new n0
    refine ⟨t0, _, rfl, SqT.of upd_same, rfl, _, _, rfl, _, _, rfl, rfl, ?_⟩
    generalize upd H t0 (.tup [.non, .non]) = H0 at s0
    refine ⟨_, rfl, l, xs, ds, rfl, s0 _ _ hl, DqA.same s0 hd, l6, fun ps e o H1 x u s1 sp cov => ?_, fun bad H1 dd tp s1 hdd htp => ?_⟩
    · refine ⟨_, rfl, _, rfl, ?_⟩
      refine iteT ?_
      refine ⟨_, rfl, (by show 2 ≤ sizeLine; decide), fun t nt => ?_⟩
      exact k ps e o _ t x u (Same.mut (s0.trans s1) ((s0.trans s1).free nt)) upd_same (sp.same (Same.new nt)) cov
    · refine ⟨T.hit, fun a na => ⟨_, rfl, fun na2 => ?_⟩⟩
      have s2 : Same H (upd H1 a (ExK (.ref CB) (some dd) a)) := Same.mut (s0.trans s1) ((s0.trans s1).free na)
      have hk : (upd H1 a (ExK (.ref CB) (some dd) a)) a = some (ExK (.ref CB) (some dd) a) := upd_same
      have hdd2 := (Same.new (o := ExK (.ref CB) (some dd) a) na) _ _ hdd
      have htp2 := (Same.new (o := ExK (.ref CB) (some dd) a) na) _ _ htp
      generalize upd H1 a (ExK (.ref CB) (some dd) a) = H2 at s2 hk hdd2 htp2
      refine ⟨_, rfl, _, rfl, ?_⟩
      refine iteF ?_
      refine ⟨_, rfl, a, CB, dd, _, .ref CB, .ref CB, true, rfl, (fun z r => r), T.exB, hk, hdd2, T.kB, true, rfl, ?_⟩
      refine iteT ?_
      refine ⟨_, rfl, a, CB, dd, _, .ty "ValueError", .type "ValueError", true, rfl, (fun z r => r), T.exB, hk, hdd2, T.kV, ?_⟩
      refine ⟨_, rfl, true, rfl, ?_⟩
      refine iteT ?_
      refine ⟨_, rfl, a, CB, dd, _, .ref tp, rfl, T.xfB, T.sup.noV, hk, hdd2, (by rw [List.lookup_cons, beq_self_eq_true]), tp, xs, ds, .tuple ds, rfl, DqA.same s2 hd, .inr ⟨htp2, rfl⟩, by simpa [PyData.showable] using sh, ?_, lz, (by show 2 ≤ sizeLine; decide), fun t nt => ?_⟩
      · simp only [PyData.depth]
        omega
      · exact kb bad _ t (Same.mut s2 (s2.free nt)) upd_same
theorem ok_law_is_right (T : Tx7 P K mg C CB CK fB) (S : SpO7 P w K mg base C) {f_law_couples : Addr} {fd_law_couples : FuncData} (D_law_couples : Cal P w K mg base 1 "_law_couples" ["_law_places_here"] (spCouples) f_law_couples fd_law_couples)  {f : Addr} {fd : FuncData} (F : FunD K "_law_is_right" "_law_is_right" (defArgs s_law_is_right) (defBody s_law_is_right) (defScope s_law_is_right) [] [] f fd) : FnOk P w K mg base CX0 5 f fd ["_law_spans", "_law_places_here"] (spIsR C) := by
  refine F.ok sc_law_is_right (fun vs H Q E h => ?_) (fun cdv A outer s H vs Q E hr h => ?_)
  · obtain ⟨a, d, ps, ks, rfl, _⟩ := h
    rfl
  · have nd := sc_law_is_right.nd
    have hu := hu_of hr
    refine ⟨_, PSs.nox (pss_cons (ps_if (PW.pt (pw_or (pt_cmpR (op_neD hr.units) (pe_fld (pv 0) rfl) (pe_c D_law_couples hr rfl (pa_cons (pv 1) pa_nil)) (nomark _)) (pw_or1 (pt_cmpR op_ne (pe_callB (id := "len") (S.oLen hr) (by rfl) T.n_len (by decide +kernel) (pa_cons (pv 0) pa_nil)) (pe_callB (id := "len") call_lenD (by rfl) T.n_len (by decide +kernel) (pa_cons (pv 1) pa_nil)) (nomark _))))) (pss_one (ps_ret pe_bl)) pss_nil)
      (pss_cons (ps_set (i := 2) nd rfl (by first | exact Or.inl rfl | exact Or.inr rfl) (pe_lst (pa_cons pe_int (pa_cons pe_int (pa_cons (pe_op op_powW pe_int pe_int) pa_nil)))))
      (pss_cons (ps_for PassesOwn.never rfl (pi_tup (pe_fld (pv 0) rfl)) (pg_tup rfl (pgs_cons (pg_name (i := 3) nd rfl (by first | exact Or.inl rfl | exact Or.inr rfl)) (pgs_cons (pg_name (i := 4) nd rfl (by first | exact Or.inl rfl | exact Or.inr rfl)) pgs_nil))) (pss_one (ps_expr (pe_bm PySem.F.plainAttrs_list PySem.F.slot_list_extend PySem.F.type_list_extend mt_extend (pv 2) (pa_cons (pe_lst (pa_cons (pe_op op_sub (pv 3) pe_int) (pa_cons (pv 3) (pa_cons (pe_op op_sub (pv 4) pe_int) (pa_cons (pv 4) pa_nil))))) pa_nil)))))
      (pss_cons (ps_if (pt_val (pe_callB (id := "any") (cr_any rfl) (by rfl) T.n_any (by decide +kernel) (pa_cons (pe_lc (own := [("_law_spot", 5)]) (g := (gName 5)) (tt := tYes) rfl nd (pi_list (pv 2)) (blkOk_by (N := N_law_is_right) (sc := defScope s_law_is_right) (own := [("_law_spot", 5)]) (by decide +kernel)) (fun _ _ _ _ _ => (pg_name (i := 5) nd rfl (by first | exact Or.inl rfl | exact Or.inr rfl))) (fun _ _ _ _ _ => pts_nil) (fun _ _ _ _ _ => (pe_cmpR op_ne (pe_cmpR (r := rOwnIn C (spIn7 K C) E0) (S.oIn (m := 4) hr) (pv 5) (pv 0) rfl) (pe_cmp (pc_din hu (pv 5) (pv 1)) rfl) (nomark _)))) pa_nil))) (pss_one (ps_ret pe_bl)) pss_nil)
      (pss_one (ps_ret (pe_not (pe_callB (id := "any") (cr_any rfl) (by rfl) T.n_any (by decide +kernel) (pa_cons (pe_lc (own := [("_law_thing", 6)]) (g := (gName 6)) (tt := tYes) rfl nd (pi_list (pe_lst (pa_cons pe_bl (pa_cons pe_non (pa_cons pe_str (pa_cons (pe_tup (pa_cons pe_int pa_nil)) (pa_cons (pe_lst (pa_cons pe_int pa_nil)) (pa_cons pe_dnewK (pa_cons (pe_tup (pa_cons pe_int (pa_cons pe_int pa_nil))) pa_nil))))))))) (blkOk_by (N := N_law_is_right) (sc := defScope s_law_is_right) (own := [("_law_thing", 6)]) (by decide +kernel)) (fun _ _ _ _ _ => (pg_name (i := 6) nd rfl (by first | exact Or.inl rfl | exact Or.inr rfl))) (fun _ _ _ _ _ => pts_nil) (fun _ _ _ _ _ => (pe_cmpR (r := rOwnIn C (spIn7 K C) E0) (S.oIn (m := 4) hr) (pv 6) (pv 0) rfl))) pa_nil))))))))), ?_⟩
    obtain ⟨a, d, ps, ks, rfl, sp, hd, nk, bk, lk, ck, k⟩ := h
    have sp' := sp
    obtain ⟨⟨dx, ta, ha, xs, hta, hx⟩, ca, oa⟩ := sp'
    have lx := PairsV.len hx
    have hz : 1000000 + 1000 < sizeLine := by decide
    have lps : ps.length ≤ 1000 := Nat.le_trans (len_cnt ca oa) (by rw [cnt_eq_keys oa nk ck]; exact lk)
    refine ⟨_, rfl, a, C, dx, _, _, rfl, ha, T.cl, T.nP, spF_pairs _ _, _, rfl, d, ks, rfl, hd, nk, bk, lk, fun H1 t u s1 tu cu ou cv => ?_⟩
    have e : ps = u := canon_unique ca cu fun x => by rw [ck, cv]
    subst e
    refine ⟨dT ps, dT ps, dp_tup ⟨xs, s1 _ _ hta, PairsV.stay (Same.tups s1) hx⟩, dp_tup tu, shaped_dT _, shaped_dT _, false, by rw [eqv_dT]; simp, ?_⟩
    show if false = true then _ else _
    refine iteF ?_
    refine ⟨_, rfl, own_lenN (sp.same s1) fun H2 s2 => ⟨_, rfl, d, setK ks, rfl, (s1.trans s2) _ _ hd, rfl, false, ?_, ?_⟩⟩
    · rw [cnt_eq_keys oa nk ck, setK_len]
      simp
    show if false = true then _ else _
    refine iteF ?_
    refine ⟨_, _, rfl, rfl, ⟨by decide, by decide +kernel⟩, (by show 3 ≤ sizeLine; decide), fun n nn => ?_⟩
    have s3 : Same H (upd H2 n (.lst [.int 0, .int 999999, .int (10 ^ Int.toNat 30)])) := Same.mut (s1.trans s2) ((s1.trans s2).free nn)
    have e3 : (upd H2 n (.lst [.int 0, .int 999999, .int (10 ^ Int.toNat 30)])) n = some (.lst ([0, 999999, 10 ^ Int.toNat 30].map V.int)) := upd_same
    have nH : H n = none := (s1.trans s2).free nn
    generalize upd H2 n (.lst [.int 0, .int 999999, .int (10 ^ Int.toNat 30)]) = H3 at s3 e3
    refine ⟨_, rfl, a, C, dx, _, _, rfl, s3 _ _ ha, T.cl, T.nP, spF_pairs _ _, ta, rfl, ⟨_, SqT.of (s3 _ _ hta)⟩, ?_⟩
    refine for_tup (K := K) (a := ta) (xs := xs) (fun i σ H' => ∃ (zs : List Int) (v3 v4 v5 v6 : Option V), σ = [some (.ref a), some (.ref d), some (.ref n), v3, v4, v5, v6] ∧ Same H H' ∧ H' n = some (.lst (zs.map V.int)) ∧ zs.length ≤ 3 + 4 * i)
      ⟨_, none, none, none, none, rfl, s3, e3, by show 3 ≤ 3; omega⟩ (fun i σ H' _ ⟨_, _, _, _, _, _, s, _⟩ => SqT.of (s _ _ hta)) ?_ ?_
    · rintro i x σ H' hi ⟨zs, v3, v4, v5, v6, rfl, s, en, lz⟩
      obtain ⟨p, hp, t, rfl, ht⟩ := PairsV.get (PairsV.stay (Same.tups s) hx) hi
      have hi' : i < xs.length := (List.getElem?_eq_some_iff.mp hi).1
      refine ⟨t, _, rfl, SqT.of ht, rfl, _, _, rfl, _, _, rfl, rfl, ?_⟩
      refine ⟨_, rfl, .inl ⟨rfl, _, SqL.of en⟩, _, rfl, _, _, rfl, rfl, _, rfl, _, rfl, _, _, rfl, rfl, _, rfl, (by show 4 ≤ sizeLine; decide), fun b nb => ?_⟩
      have nnb : n ≠ b := ne_of_none en nb
      refine ⟨n, b, _, _, rfl, rfl, (by rw [upd_ne nnb]; exact en), upd_same, (by rw [List.length_map]; show _ + 4 ≤ _; omega), ?_⟩
      refine ⟨zs ++ [p.1 - 1, p.1, p.2 - 1, p.2], _, _, _, _, rfl, Same.mut (Same.mut s (s.free nb)) nH, by rw [upd_same, List.map_append]; rfl, by rw [List.length_append]; show _ + 4 ≤ _; omega⟩
    · rintro σ H' ⟨zs, v3, v4, v5, v6, rfl, s, en, lz⟩
      have eN : SqL K H' n (zs.map V.int) := SqL.of en
      refine ⟨_, rfl, n, rfl, ⟨_, eN⟩, ?_⟩
      intro D nD
      refine lc_dqs2 (K := K) (v := fun _ => .bl false) (Walks.lst eN) (dqA_ints zs) (Same.refl H') nD (by rw [List.length_map]; omega) (fun H4 x dd Nx hm s4 hdd hn => ?_) fun H5 s5 _ e5 => ?_
      · obtain ⟨z, _, rfl⟩ := List.mem_map.mp hm
        cases hdd
        have s04 := s.trans s4
        refine ⟨rfl, yesT ⟨_, rfl, _, rfl, a, dx, _, rfl, s04 _ _ ha, a, .int z, ps, .int z, rfl, sp.same s04, .int z, fun H6 b s6 hb => ⟨b, rfl, _, rfl, _, rfl, d, _, rfl, .inl ⟨setK ks, .inl z, Rd.of ((s04.trans s6) _ _ hd), rfl, rfl⟩, ?_⟩⟩⟩
        rw [setK_val]
        have hbz : b = decide (z ∈ ks) := by
          rw [Bool.eq_iff_iff, hb, decide_eq_true_iff, ← ck]
          exact ⟨fun ⟨i, ei, c⟩ => by cases ei; exact c, fun c => ⟨z, rfl, c⟩⟩
        refine ⟨rfl, ?_⟩
        have hn6 := hn H6 s6
        have eb : V.bl (!decide (V.bl b = V.bl (if z ∈ ks then some (V.bl true) else none).isSome)) = V.bl false := by
          rw [hbz]
          by_cases c : z ∈ ks
          · rw [if_pos c, decide_eq_true c]
            rfl
          · rw [if_neg c, decide_eq_false c]
            rfl
        rw [eb]
        exact hn6
      · refine ⟨D, zs.map fun _ => false, rfl, SqL.of (by rw [List.map_map]; rw [List.map_map] at e5; exact e5), false, congrArg V.bl (any_false zs), ?_⟩
        show if false = true then _ else _
        refine iteF ?_
        have s05 := s.trans s5
        refine ⟨(by show 1 ≤ sizeLine; decide), fun t1 n1 => ⟨(by show 1 ≤ sizeLine; decide), fun t2 n2 => fun t3 n3 => ⟨(by show 2 ≤ sizeLine; decide), fun t4 n4 => ⟨(by show 7 ≤ sizeLine; decide), fun L nL => ?_⟩⟩⟩⟩
        have f3 := n3
        have S1 : Same H' (upd H5 t1 (.tup [.int 0])) := Same.mut s5 (s5.free n1)
        have S2 : Same H5 (upd (upd H5 t1 (.tup [.int 0])) t2 (.lst [.int 0])) := (Same.new n1).trans (Same.new n2)
        have S3 := S2.trans (Same.new (o := .dK []) n3)
        have S4 := S3.trans (Same.new (o := .tup [.int 0, .int 1]) n4)
        have S5 := S4.trans (Same.new (o := .lst [.bl true, .non, .str "0", .ref t1, .ref t2, .ref t3, .ref t4]) nL)
        have q1 := ((((Same.new n2).trans (Same.new (o := .dK []) n3)).trans (Same.new (o := .tup [.int 0, .int 1]) n4)).trans (Same.new (o := .lst [.bl true, .non, .str "0", .ref t1, .ref t2, .ref t3, .ref t4]) nL)) t1 _ upd_same
        have q2 := (((Same.new (o := .dK []) n3).trans (Same.new (o := .tup [.int 0, .int 1]) n4)).trans (Same.new (o := .lst [.bl true, .non, .str "0", .ref t1, .ref t2, .ref t3, .ref t4]) nL)) t2 _ upd_same
        have q3 := ((Same.new (o := .tup [.int 0, .int 1]) n4).trans (Same.new (o := .lst [.bl true, .non, .str "0", .ref t1, .ref t2, .ref t3, .ref t4]) nL)) t3 _ upd_same
        have q4 := (Same.new (o := .lst [.bl true, .non, .str "0", .ref t1, .ref t2, .ref t3, .ref t4]) nL) t4 _ upd_same
        have q5 : (upd (upd (upd (upd (upd H5 t1 (.tup [.int 0])) t2 (.lst [.int 0])) t3 (.dK [])) t4 (.tup [.int 0, .int 1])) L (.lst [.bl true, .non, .str "0", .ref t1, .ref t2, .ref t3, .ref t4])) L = some (.lst [.bl true, .non, .str "0", .ref t1, .ref t2, .ref t3, .ref t4]) := upd_same
        generalize upd (upd (upd (upd (upd H5 t1 (.tup [.int 0])) t2 (.lst [.int 0])) t3 (.dK [])) t4 (.tup [.int 0, .int 1])) L (.lst [.bl true, .non, .str "0", .ref t1, .ref t2, .ref t3, .ref t4]) = H6 at S5 q1 q2 q3 q4 q5
        have eL : SqL K H6 L _ := SqL.of q5
        have dq : DqA K H6 [.bl true, .non, .str "0", .ref t1, .ref t2, .ref t3, .ref t4] [.bool true, .none, .str "0", .tuple [.int 0], .list [.int 0], .dict [], .tuple [.int 0, .int 1]] :=
          .cons (.bl true) (.cons .non (.cons (.str _) (.cons (.tup q1 (.cons (.int 0) .nil)) (.cons (.lst q2 (.cons (.int 0) .nil)) (.cons (.dct q3 rfl .nil) (.cons (.tup q4 (.cons (.int 0) (.cons (.int 1) .nil))) .nil))))))
        have s06 := s05.trans S5
        refine ⟨L, rfl, ⟨_, eL⟩, ?_⟩
        intro D2 nD2
        refine lc_dqs2 (K := K) (v := fun _ => .bl false) (Walks.lst eL) dq (Same.refl H6) nD2 (by show 7 ≤ sizeLine; decide) (fun H7 x dd Nx hm s7 hdd hn => ?_) fun H8 s8 _ e8 => ?_
        · have s07 := s06.trans s7
          refine ⟨rfl, yesT ⟨_, rfl, _, rfl, a, dx, _, rfl, s07 _ _ ha, a, x, ps, dd, rfl, sp.same s07, hdd, fun H9 b s9 hb => ⟨b, rfl, ?_⟩⟩⟩
          have hn9 := hn H9 s9
          have eb : b = false := by
            cases b with
            | false => rfl
            | true =>
              obtain ⟨i, ei, _⟩ := hb.mp rfl
              subst ei
              simp at hm
          rw [eb]
          exact hn9
        · refine ⟨D2, [PyData.bool true, .none, .str "0", .tuple [.int 0], .list [.int 0], .dict [], .tuple [.int 0, .int 1]].map fun _ => false, rfl, SqL.of (by rw [List.map_map]; exact e8), false, congrArg V.bl (any_false _), ?_⟩
          exact k _ (s06.trans s8)
theorem ok_law_right (T : Tx7 P K mg C CB CK fB)  {f_law_draw : Addr} {fd_law_draw : FuncData} (D_law_draw : Cal P w K mg base 1 "_law_draw" ["_law_pot_here", "_law_many"] (spDraw) f_law_draw fd_law_draw) {f_law_places : Addr} {fd_law_places : FuncData} (D_law_places : Cal P w K mg base 1 "_law_places" ["_law_couples_here"] (spPlaces7) f_law_places fd_law_places) {f_law_drawn : Addr} {fd_law_drawn : FuncData} (D_law_drawn : Cal P w K mg base 3 "_law_drawn" ["_law_pot_here", "_law_most", "_law_wide"] (spDrawn7) f_law_drawn fd_law_drawn) {f_law_odd : Addr} {fd_law_odd : FuncData} (D_law_odd : Cal P w K mg base 3 "_law_odd" ["_law_pot_here"] (spOdd K) f_law_odd fd_law_odd) {f_law_is_couple : Addr} {fd_law_is_couple : FuncData} (D_law_is_couple : Cal P w K mg base 1 "_law_is_couple" ["_law_thing"] (spCoup K) f_law_is_couple fd_law_is_couple) {f_law_met : Addr} {fd_law_met : FuncData} (D_law_met : CalG P w K mg base 6 "_law_met" ["_law_some"] (spMet K C) f_law_met fd_law_met) {f_law_is_right : Addr} {fd_law_is_right : FuncData} (D_law_is_right : Cal P w K mg base 5 "_law_is_right" ["_law_spans", "_law_places_here"] (spIsR C) f_law_is_right fd_law_is_right)  {f : Addr} {fd : FuncData} (F : FunD K "_law_right" "_law_right" (defArgs s_law_right) (defBody s_law_right) (defScope s_law_right) [] [] f fd) : FnG P w K mg base CX0 7 f fd ["_law_pot_here"] (spRight7) := by
  refine fnG_of F sc_law_right (fun vs H Q E h => ?_) (fun cdv A outer s H vs Q E gd hr h => ?_)
  · obtain ⟨p, rfl, _⟩ := h
    rfl
  · have nd := sc_law_right.nd
    have hu := hu_of hr
    refine ⟨_, PSs.nox (pss_cons (ps_for PassesOwn.never rfl (pi_range1 rfl T.n_range (pa_cons pe_int pa_nil)) (pg_name (i := 1) nd rfl (by first | exact Or.inl rfl | exact Or.inr rfl)) (pss_cons (ps_set (i := 2) nd rfl (by first | exact Or.inl rfl | exact Or.inr rfl) (pe_c D_law_drawn hr rfl (pa_cons (pv 0) (pa_cons pe_int (pa_cons pe_int pa_nil)))))
      (pss_cons (ps_if (pt_cmpR op_eq (pe_c D_law_draw hr rfl (pa_cons (pv 0) (pa_cons pe_int pa_nil))) pe_int (nomark _)) (pss_cons (ps_set (i := 3) nd rfl (by first | exact Or.inl rfl | exact Or.inr rfl) (pe_c D_law_draw hr rfl (pa_cons (pv 0) (pa_cons (pe_op op_add (pe_callB (id := "len") call_len (by rfl) T.n_len (by decide +kernel) (pa_cons (pv 2) pa_nil)) pe_int) pa_nil))))
      (pss_one (ps_set (i := 2) nd rfl (by first | exact Or.inl rfl | exact Or.inr rfl) (pe_op op_cat (pe_op op_cat (pe_slice sl_list (pv 2) po_none (po_some (pv 3))) (pe_lst (pa_cons (pe_c D_law_odd hr rfl (pa_cons (pv 0) pa_nil)) pa_nil))) (pe_slice sl_list (pv 2) (po_some (pv 3)) po_none))))) pss_nil)
      (pss_cons (ps_par (i := 4) (j := 5) (by rfl) nd rfl rfl (by decide) rfl rfl (pa_cons (pe_callB (id := "repr") (call_reprQ gd hr.units) (by rfl) T.n_repr (by decide +kernel) (pa_cons (pv 2) pa_nil)) (pa_cons (pe_cG D_law_met gd hr rfl (pa_cons (pv 2) pa_nil)) pa_nil)) (by rfl))
      (pss_cons (ps_if (pt_not (pt_val (pe_callB (id := "all") (cr_all rfl) (by rfl) T.n_all (by decide +kernel) (pa_cons (pe_lc (own := [("_law_thing", 6)]) (g := (gName 6)) (tt := tYes) rfl nd (pi_list (pv 2)) (blkOk_by (N := N_law_right) (sc := defScope s_law_right) (own := [("_law_thing", 6)]) (by decide +kernel)) (fun _ _ _ _ _ => (pg_name (i := 6) nd rfl (by first | exact Or.inl rfl | exact Or.inr rfl))) (fun _ _ _ _ _ => pts_nil) (fun _ _ _ _ _ => (pe_c D_law_is_couple hr rfl (pa_cons (pv 6) pa_nil)))) pa_nil)))) (pss_one (ps_if (pt_cmpR (op_neD hr.units) (pv 5) (pe_tup (pa_cons pe_str (pa_cons (pe_callB (id := "repr") (call_reprQ gd hr.units) (by rfl) T.n_repr (by decide +kernel) (pa_cons (pe_tupleOf (by rfl) T.n_tuple (pv 2)) pa_nil)) pa_nil))) (nomark _)) (pss_one (ps_ret pe_bl)) pss_nil)) (pss_one (ps_if (pt_val (pe_callB (id := "any") (cr_any rfl) (by rfl) T.n_any (by decide +kernel) (pa_cons (pe_lc (own := [("_law_start", 7), ("_law_stop", 8)]) (g := (gTup K 2 (gCons (gName 7) (gCons (gName 8) gNil)))) (tt := tYes) rfl nd (pi_list (pv 2)) (blkOk_by (N := N_law_right) (sc := defScope s_law_right) (own := [("_law_start", 7), ("_law_stop", 8)]) (by decide +kernel)) (fun _ _ _ _ _ => (pg_tup rfl (pgs_cons (pg_name (i := 7) nd rfl (by first | exact Or.inl rfl | exact Or.inr rfl)) (pgs_cons (pg_name (i := 8) nd rfl (by first | exact Or.inl rfl | exact Or.inr rfl)) pgs_nil)))) (fun _ _ _ _ _ => pts_nil) (fun _ _ _ _ _ => (pe_cmpR op_gt (pe_op op_sub (pv 8) (pv 7)) pe_int (nomark _)))) pa_nil))) (pss_one (ps_if (pt_cmpR op_ne (pe_ix ix_tup (pv 5) pe_int (fun _ _ => rfl)) pe_str (nomark _)) (pss_one (ps_ret pe_bl)) pss_nil)) (pss_one (ps_if (PW.pt (pw_or (pt_cmpR op_ne (pe_ix ix_tup (pv 5) pe_int (fun _ _ => rfl)) pe_str (nomark _)) (pw_or1 (pt_not (pt_val (pe_c D_law_is_right hr rfl (pa_cons (pe_ix ix_tup (pv 5) pe_int (fun _ _ => rfl)) (pa_cons (pe_c D_law_places hr rfl (pa_cons (pv 2) pa_nil)) pa_nil)))))))) (pss_one (ps_ret pe_bl)) pss_nil)))))
      (pss_one (ps_if (pt_cmpR op_ne (pe_callB (id := "repr") (call_reprQ gd hr.units) (by rfl) T.n_repr (by decide +kernel) (pa_cons (pv 2) pa_nil)) (pv 4) (nomark _)) (pss_one (ps_ret pe_bl)) pss_nil)))))))
      (pss_one (ps_ret pe_bl))), ?_⟩
    obtain ⟨p, rfl, hp, k⟩ := h
    have hz : 1000 < sizeLine := by decide
    refine ⟨60, rfl, by decide, by decide, for_range (fun i σ H' => ∃ v1 v2 v3 v4 v5 v6 v7 v8 : Option V, σ = [some (.ref p), v1, v2, v3, v4, v5, v6, v7, v8] ∧ But p H H' ∧ PotAt H' p (80 * i)) ⟨none, none, none, none, none, none, none, none, rfl, But.refl p H, hp.mono (by omega)⟩ ?_ ?_⟩
    · rintro i σ H1 hi ⟨v1, v2, v3, v4, v5, v6, v7, v8, rfl, b1, p1⟩
      have hi : i < 60 := hi
      refine ⟨_, rfl, p, _, rfl, p1, by omega, fun H2 l ps b2 p2 nlp nl hl o w9 l5 => ?_⟩
      obtain ⟨xs, el, hx⟩ := hl
      have b2 := But.trans b1 b2
      have lx := PairsV.len hx
      have dq2 : DqA K (off p H2) xs (ps.map dP) := pairs_dqA (PairsV.stay (off_tups p2) hx)
      have f2 := fits_pairs o
      dsimp only [gName]
      refine tSeq_any (fun σ' H' => ∃ (l : Addr) (xs : List V) (ds : List PyData) (v3 : Option V), σ' = [some (.ref p), some (.int (0 + (i : Int))), some (.ref l), v3, v4, v5, v6, v7, v8] ∧ But p H H' ∧ PotAt H' p (80 * i + 70) ∧ l ≠ p ∧ H' l = some (.lst xs) ∧ DqA K (off p H') xs ds ∧ Fits ds ∧ xs.length ≤ 6) (fun D' hD => ?_) ?_
      · refine ⟨_, rfl, p, 3, _, rfl, p2, by decide, by decide, by omega, fun H3 dr b3 p3 d0 d1 => ?_⟩
        have el3 := b3 _ _ nlp el
        have dq3 := DqA.same (off_same b3) dq2
        have b3 := But.trans b2 b3
        refine ⟨rfl, _, rfl, ?_⟩
        show if decide (V.int dr = V.int 0) = true then _ else _
        refine ite2 (fun _ => ?_) (fun _ => ?_)
        · refine ⟨_, rfl, _, rfl, _, _, rfl, .inl ⟨_, SqL.of el3, rfl⟩, _, _, rfl, rfl, p, _, _, rfl, p3, by omega, by omega, by omega, fun H4 sp b4 p4 s0 s1 => ?_⟩
          have el4 := b4 _ _ nlp el3
          have dq4 := DqA.same (off_same b4) dq3
          have b4 := But.trans b3 b4
          obtain ⟨m, rfl⟩ : ∃ m : Nat, sp = (m : Int) := ⟨sp.toNat, by omega⟩
          have hm : m ≤ xs.length := by omega
          refine ⟨_, rfl, _, rfl, _, rfl, l, xs, rfl, SqL.of el4, fun q1 m1 => ?_⟩
          rw [cut_take xs m hm]
          have p5 := p4.same (Same.new (o := .lst (xs.take m)) m1)
          have b5 := But.trans b4 (Same.but (Same.new (o := .lst (xs.take m)) m1) p)
          have el5 := (Same.new (o := .lst (xs.take m)) m1) _ _ el4
          have dq5 := DqA.same (off_same (Same.but (Same.new (o := .lst (xs.take m)) m1) p)) dq4
          have nq1 := p4.ne m1
          have e5 : (upd H4 q1 (.lst (xs.take m))) q1 = some (.lst (xs.take m)) := upd_same
          show (fun H5 : Hp => _) (upd H4 q1 (.lst (xs.take m)))
          generalize upd H4 q1 (.lst (xs.take m)) = H5 at p5 b5 el5 dq5 e5
          refine ⟨_, rfl, p, _, rfl, p5, by omega, fun H6 x d b6 p6 dq6 od => ?_⟩
          have el6 := b6 _ _ nlp el5
          have e6 := b6 _ _ nq1 e5
          have dqx := DqA.same (off_same b6) dq5
          have b6 := But.trans b5 b6
          refine ⟨by show 1 ≤ sizeLine; decide, fun q2 m2 => ?_⟩
          have s7 := Same.new (o := .lst [x]) m2
          refine ⟨q1, q2, _, _, rfl, rfl, s7 _ _ e6, upd_same, (by rw [List.length_take]; show _ + 1 ≤ _; omega), fun q3 m3 => ?_⟩
          have s8 := s7.trans (Same.new (o := .lst (xs.take m ++ [x])) m3)
          have e8 : (upd (upd H6 q2 (.lst [x])) q3 (.lst (xs.take m ++ [x]))) q3 = some (.lst (xs.take m ++ [x])) := upd_same
          show (fun H8 : Hp => _) (upd (upd H6 q2 (.lst [x])) q3 (.lst (xs.take m ++ [x])))
          generalize upd (upd H6 q2 (.lst [x])) q3 (.lst (xs.take m ++ [x])) = H8 at s8 e8
          refine ⟨_, rfl, _, rfl, _, rfl, l, xs, rfl, SqL.of (s8 _ _ el6), fun q4 m4 => ?_⟩
          rw [cut_drop xs m hm]
          have s9 := s8.trans (Same.new (o := .lst (xs.drop m)) m4)
          refine ⟨q3, q4, _, _, rfl, rfl, (Same.new m4) _ _ e8, upd_same, (by rw [List.length_append, List.length_take, List.length_drop]; show _ + 1 + _ ≤ _; omega), fun q5 m5 => ?_⟩
          have s10 := s9.trans (Same.new (o := .lst ((xs.take m ++ [x]) ++ xs.drop m)) m5)
          have fk : Fits ((ps.map dP).take m ++ [d] ++ (ps.map dP).drop m) := fun z mz => by
            rcases List.mem_append.mp mz with mz | mz
            · rcases List.mem_append.mp mz with mz | mz
              · exact f2 z (List.mem_of_mem_take mz)
              · rw [List.mem_singleton.mp mz]
                exact od
            · exact f2 z (List.mem_of_mem_drop mz)
          have n5 : q5 ≠ p := (p6.same s9).ne m5
          exact hD _ _ ⟨q5, _, _, _, rfl, But.trans b6 (Same.but s10 p), (p6.same s10).mono (by omega), n5, upd_same, DqA.same (off_same (Same.but s10 p)) (DqA.app (DqA.app (DqA.take m dqx) (DqA.one dq6)) (DqA.drop m dqx)), fk, by rw [List.length_append, List.length_append, List.length_take, List.length_drop]; show _ + 1 + _ ≤ _; omega⟩
        · exact hD _ _ ⟨l, xs, _, _, rfl, b3, p3.mono (by omega), nlp, el3, dq3, f2, by omega⟩
      · rintro σ' H5 ⟨l, xs, ds, v3, rfl, b5, p5, nlp, el, dq, ft, l6⟩
        have dqH : DqA K H5 xs ds := DqA.same (off_in p H5) dq
        have ldx := DqA.len dqH
        obtain ⟨sh1, sh2, _⟩ := fits_show ft
        have lds : ds.length ≤ 6 := by omega
        refine ⟨_, rfl, l, xs, ds, .list ds, rfl, dqH, .inl ⟨el, rfl⟩, by simpa [PyData.showable] using sh1, by simp only [PyData.depth]; omega, fits_list ft lds, ?_⟩
        refine ⟨_, rfl, l, xs, ds, rfl, el, dqH, l6, sh1, by omega, fits_tuple ft lds, fun qs e o H6 t x u s6 ht sp cov => ?_, fun bad H6 t s6 ht => ?_⟩
        · subst e
          refine ⟨_, _, rfl, ?_⟩
          dsimp only
          refine tSeq_any (fun σ' H' => ∃ v6 v7 v8 : Option V, σ' = [some (.ref p), some (.int (0 + (i : Int))), some (.ref l), v3, some (.str (PyData.list (qs.map dP)).shown), some (.ref t), v6, v7, v8] ∧ Same H5 H') (fun D' hD => ?_) ?_
          · have el6 := s6 _ _ el
            have dq6 := DqA.same s6 dqH
            refine ⟨_, rfl, l, rfl, ⟨_, SqL.of el6⟩, ?_⟩
            intro D nD
            refine lc_dqs2 (K := K) (v := fun d => .bl (spanB d)) (Walks.lst (K := K) (SqL.of el6)) dq6 (Same.refl H6) nD (by omega) (fun H7 y d Nx hm s7 hd hn => ⟨rfl, yesT ⟨_, rfl, y, d, rfl, hd, fun H8 s8 => hn H8 s8⟩⟩) fun H7 s7 _ e7 => ?_
            have hall : (((qs.map dP).map spanB).all id) = true := by rw [List.all_map]; exact all_dP o
            refine ⟨D, (qs.map dP).map spanB, rfl, SqL.of (by rw [List.map_map]; exact e7), true, congrArg V.bl hall, ?_⟩
            show if (!true) = true then _ else _
            refine iteNo ?_
            have el7 := s7 _ _ el6
            have pv7 := pairs_of (DqA.same s7 dq6)
            have lq := PairsV.len pv7
            refine ⟨_, rfl, l, rfl, ⟨_, SqL.of el7⟩, ?_⟩
            intro D2 nD2
            refine lc_pairs (v := fun q => .bl (decide (q.2 - q.1 > 99))) (Walks.lst (K := K) (SqL.of el7)) pv7 (Same.refl H7) nD2 (by omega) (fun H' t q Nx hq ht hn => ⟨t, _, rfl, SqT.of ht, rfl, _, _, rfl, _, _, rfl, rfl, rfl, yesT ⟨_, rfl, _, rfl, _, _, rfl, rfl, _, _, rfl, rfl, hn⟩⟩) fun H8 s8 _ e8 => ?_
            have s58 : Same H5 H8 := s6.trans (s7.trans s8)
            have ht8 := (s7.trans s8) _ _ ht
            refine ⟨D2, qs.map (fun q => decide (q.2 - q.1 > 99)), rfl, SqL.of (by rw [List.map_map]; exact e8), _, rfl, ?_⟩
            refine ite2 (fun _ => ?_) (fun hb => ?_)
            · refine ⟨_, rfl, t, _, 0, _, rfl, rfl, SqT.of ht8, rfl, rfl, false, by simp, ?_⟩
              show if false = true then _ else _
              exact iteF (hD _ _ ⟨_, _, _, rfl, s58⟩)
            · have w99 : ∀ q ∈ qs, q.2 - q.1 ≤ 99 := fun q mq => by
                by_cases c : q.2 - q.1 > 99
                · refine absurd ?_ hb
                  rw [List.any_map]
                  exact List.any_eq_true.mpr ⟨q, mq, decide_eq_true c⟩
                · omega
              refine ⟨_, rfl, t, _, 0, _, rfl, rfl, SqT.of ht8, rfl, rfl, false, by simp, ?_⟩
              show if false = true then _ else _
              refine iteF ?_
              refine ⟨_, rfl, t, _, 1, _, rfl, rfl, SqT.of ht8, rfl, _, rfl, l, qs, rfl, ⟨xs, s8 _ _ el7, PairsV.stay (Same.tups s8) pv7⟩, o, w99, by omega, fun H9 dd ks s9 nd9 hd nk mk lk => ?_⟩
              refine ⟨x, dd, u, ks, rfl, sp.same ((s7.trans s8).trans s9), hd, nk, (fun y my => covers_in o ((mk y).mp my)), by omega, (fun y => (cov y).trans (mk y).symm), fun H10 s10 => ⟨true, rfl, ?_⟩⟩
              show if (!true) = true then _ else _
              exact iteNo (hD _ _ ⟨_, _, _, rfl, s58.trans (s9.trans s10)⟩)
          · rintro σ9 H9 ⟨v6, v7, v8, rfl, s9⟩
            refine ⟨_, rfl, l, xs, _, _, rfl, DqA.same s9 dqH, .inl ⟨s9 _ _ el, rfl⟩, by simpa [PyData.showable] using sh1, by simp only [PyData.depth]; omega, fits_list ft lds, _, rfl, rfl, false, by simp, ?_⟩
            show if false = true then _ else _
            refine iteF ?_
            exact ⟨_, _, _, _, _, _, _, _, rfl, But.trans b5 (Same.but s9 p), (p5.same s9).mono (by omega)⟩
        · refine ⟨_, _, rfl, ?_⟩
          dsimp only
          refine tSeq_any (fun σ' H' => ∃ v6 v7 v8 : Option V, σ' = [some (.ref p), some (.int (0 + (i : Int))), some (.ref l), v3, some (.str (PyData.list ds).shown), some (.ref t), v6, v7, v8] ∧ Same H5 H') (fun D' hD => ?_) ?_
          · have el6 := s6 _ _ el
            have dq6 := DqA.same s6 dqH
            refine ⟨_, rfl, l, rfl, ⟨_, SqL.of el6⟩, ?_⟩
            intro D nD
            refine lc_dqs2 (K := K) (v := fun d => .bl (spanB d)) (Walks.lst (K := K) (SqL.of el6)) dq6 (Same.refl H6) nD (by omega) (fun H7 y d Nx hm s7 hd hn => ⟨rfl, yesT ⟨_, rfl, y, d, rfl, hd, fun H8 s8 => hn H8 s8⟩⟩) fun H7 s7 _ e7 => ?_
            have hall : ((ds.map spanB).all id) = false := by rw [List.all_map]; exact bad
            refine ⟨D, ds.map spanB, rfl, SqL.of (by rw [List.map_map]; exact e7), false, congrArg V.bl hall, ?_⟩
            show if (!false) = true then _ else _
            refine iteT ?_
            have el7 := s7 _ _ el6
            refine ⟨_, rfl, _, rfl, .inl ⟨l, _, rfl, SqL.of el7, fun q nq => ?_⟩⟩
            have s8 := s7.trans (Same.new (o := .tup xs) nq)
            refine ⟨q, xs, ds, .tuple ds, rfl, DqA.same (s6.trans s8) dqH, .inr ⟨upd_same, rfl⟩, by simpa [PyData.showable] using sh1, by simp only [PyData.depth]; omega, fits_tuple ft lds, (by show 2 ≤ sizeLine; decide), fun t2 n2 => ?_⟩
            have s9 := s8.trans (Same.new (o := .tup [.str "bad", .str (PyData.tuple ds).shown]) n2)
            refine ⟨.tuple [.str "bad", .str (PyData.tuple ds).shown], .tuple [.str "bad", .str (PyData.tuple ds).shown], .tup (SqT.of (s9 _ _ ht)) (.cons (.str _) (.cons (.str _) .nil)), .tup (SqT.of upd_same) (.cons (.str _) (.cons (.str _) .nil)), shaped_bad (fits_ok ft), shaped_bad (fits_ok ft), false, by rw [eqv_bad]; rfl, ?_⟩
            show if false = true then _ else _
            exact iteF (hD _ _ ⟨_, _, _, rfl, s6.trans s9⟩)
          · rintro σ9 H9 ⟨v6, v7, v8, rfl, s9⟩
            refine ⟨_, rfl, l, xs, _, _, rfl, DqA.same s9 dqH, .inl ⟨s9 _ _ el, rfl⟩, by simpa [PyData.showable] using sh1, by simp only [PyData.depth]; omega, fits_list ft lds, _, rfl, rfl, false, by simp, ?_⟩
            show if false = true then _ else _
            refine iteF ?_
            exact ⟨_, _, _, _, _, _, _, _, rfl, But.trans b5 (Same.but s9 p), (p5.same s9).mono (by omega)⟩
    · rintro σ H1 ⟨v1, v2, v3, v4, v5, v6, v7, v8, rfl, b1, p1⟩
      exact k _ b1
theorem ok_law (T : Tx7 P K mg C CB CK fB)  {f_law_pot : Addr} {fd_law_pot : FuncData} (D_law_pot : Cal P w K mg base 1 "_law_pot" ["_law_script", "_law_k"] (spPot K) f_law_pot fd_law_pot) {f_law_right : Addr} {fd_law_right : FuncData} (D_law_right : CalG P w K mg base 7 "_law_right" ["_law_pot_here"] (spRight7) f_law_right fd_law_right)  {f : Addr} {fd : FuncData} (F : FunD K "law" "law" (defArgs s_law) (defBody s_law) (defScope s_law) [] [] f fd) : FnG P w K mg base CX0 8 f fd ["_law_script"] (spLaw K) := by
  refine fnG_of F sc_law (fun vs H Q E h => ?_) (fun cdv A outer s H vs Q E gd hr h => ?_)
  · obtain ⟨a, ns, rfl, _⟩ := h
    rfl
  · have nd := sc_law.nd
    have hu := hu_of hr
    refine ⟨_, PSs.nox (pss_cons (ps_for PassesOwn.never rfl (pi_range1 rfl T.n_range (pa_cons (pe_callB (id := "max") (call_max2 rfl) (by rfl) T.n_max (by decide +kernel) (pa_cons pe_int (pa_cons (pe_callB (id := "min") (call_min2 rfl) (by rfl) T.n_min (by decide +kernel) (pa_cons pe_int (pa_cons (pe_callB (id := "len") call_len (by rfl) T.n_len (by decide +kernel) (pa_cons (pv 0) pa_nil)) pa_nil))) pa_nil))) pa_nil)) (pg_name (i := 1) nd rfl (by first | exact Or.inl rfl | exact Or.inr rfl)) (pss_one (ps_if (pt_not (pt_val (pe_cG D_law_right gd hr rfl (pa_cons (pe_c D_law_pot hr rfl (pa_cons (pv 0) (pa_cons (pv 1) pa_nil))) pa_nil)))) (pss_one (ps_ret pe_bl)) pss_nil)))
      (pss_one (ps_ret pe_bl))), ?_⟩
    obtain ⟨a, ns, rfl, ha, q⟩ := h
    obtain ⟨j, ej, j1, j3⟩ := turns (((ns.map V.int).length : Nat) : Int) (Int.natCast_nonneg _)
    refine ⟨_, rfl, _, _, rfl, .inl ⟨_, ha, rfl⟩, _, _, rfl, _, _, rfl, ?_⟩
    refine ⟨_, rfl, ?_⟩
    show _ ≤ (if (if (((ns.map V.int).length : Nat) : Int) < 3 then (((ns.map V.int).length : Nat) : Int) else 3) > 1 then (if (((ns.map V.int).length : Nat) : Int) < 3 then (((ns.map V.int).length : Nat) : Int) else 3) else 1) ∧ _
    rw [ej]
    refine ⟨by omega, by omega, ?_⟩
    refine for_range (fun i σ H' => ∃ v1 : Option V, σ = [some (.ref a), v1] ∧ Same H H') ⟨none, rfl, Same.refl H⟩ ?_ ?_
    · rintro i σ H1 hi ⟨v1, rfl, s1⟩
      refine ⟨_, rfl, _, rfl, a, ns, _, rfl, s1.seq ha, by omega, by omega, fun H2 l nl s2 pl => ?_⟩
      refine ⟨l, rfl, pl, fun H3 b3 => ⟨true, rfl, ?_⟩⟩
      refine iteNo ?_
      exact ⟨_, rfl, Same.ofBut (s1.trans s2) (s1.free nl) b3⟩
    · rintro σ H1 ⟨v1, rfl, s1⟩
      exact q _
end
end S1

namespace S1
open PySem PySem.Spec PyProof.Rows L2 StX M1
theorem fd_mk {K : PySem.W.Frag} {x q : Str} {st : Stmt} {f : Addr} {od an : Option Addr} {sl : Array (Option Value)} {oc kV dc pm cd ct : Value} (l : K.lookup f = some ⟨oc, od, .func (PySem.W.fnOf x q (defArgs st) (defBody st) (defScope st) .none kV dc pm an cd ct), sl⟩)
    (c : PySem.W.codeIn K cd q = true) (k : PySem.W.keepIn K (.ref f) = true) : FunD K x q (defArgs st) (defBody st) (defScope st) [] [] f (PySem.W.fnOf x q (defArgs st) (defBody st) (defScope st) .none kV dc pm an cd ct) :=
  ⟨⟨_, _, _, _, _, _, _, _, _, _, rfl, l, c, .inl ⟨rfl, rfl⟩, .inl rfl⟩, k⟩
theorem all_mk {l : PySem.W.OpenLaw} {w : World} {K : PySem.W.Frag} {h : Heap} {mg : Str → Option Value} {fa C f0 f1 f2 f3 f4 f5 f6 f7 f8 f9 f10 f11 f12 f13 f14 f15 f16 f17 f18 CB CK fB NB cdB ccB : Addr} (X : K.In h) (G : h.Ns mainGlobals mg) (hfa : mg "law" = some (.ref fa))
    {od0 an0 od1 an1 od2 an2 od3 an3 od4 an4 od5 an5 od6 an6 od7 an7 od8 an8 od9 an9 od10 an10 od11 an11 od12 an12 od13 an13 od14 an14 od15 an15 od16 an16 od17 an17 od18 an18 : Option Addr} {sl0 sl1 sl2 sl3 sl4 sl5 sl6 sl7 sl8 sl9 sl10 sl11 sl12 sl13 sl14 sl15 sl16 sl17 sl18 : Array (Option Value)} {oc0 kV0 dc0 pm0 cd0 ct0 oc1 kV1 dc1 pm1 cd1 ct1 oc2 kV2 dc2 pm2 cd2 ct2 oc3 kV3 dc3 pm3 cd3 ct3 oc4 kV4 dc4 pm4 cd4 ct4 oc5 kV5 dc5 pm5 cd5 ct5 oc6 kV6 dc6 pm6 cd6 ct6 oc7 kV7 dc7 pm7 cd7 ct7 oc8 kV8 dc8 pm8 cd8 ct8 oc9 kV9 dc9 pm9 cd9 ct9 oc10 kV10 dc10 pm10 cd10 ct10 oc11 kV11 dc11 pm11 cd11 ct11 oc12 kV12 dc12 pm12 cd12 ct12 oc13 kV13 dc13 pm13 cd13 ct13 oc14 kV14 dc14 pm14 cd14 ct14 oc15 kV15 dc15 pm15 cd15 ct15 oc16 kV16 dc16 pm16 cd16 ct16 oc17 kV17 dc17 pm17 cd17 ct17 oc18 kV18 dc18 pm18 cd18 ct18 : Value} {tP tM tfB : Tok} {nmB qB fileB : Str} {bsB sbB : List Value} {snB : List Str} {abB : Bool} {coB : Option Bool} {ddB odB anB cB2 cB5 : Option Addr} {m0 m1 m2 m3 m5 : Option Value} {ocB dcB pmB ctB cB1 cB4 : Value} {slB cB3 cB6 : Array (Option Value)} {vsB : Array Value}
    (aC : PySem.W.nsIn K mainGlobals "Spans" = some (some (.ref C)))
    (aB : PySem.W.nsIn K mainGlobals "BadSpans" = some (some (.ref CB)))
    (aK : PySem.W.nsIn K mainGlobals "KeeperError" = some (some (.ref CK)))
    (z_int : PySem.W.nsIn K mainGlobals "int" = some none)
    (z_bool : PySem.W.nsIn K mainGlobals "bool" = some none)
    (z_tuple : PySem.W.nsIn K mainGlobals "tuple" = some none)
    (z_len : PySem.W.nsIn K mainGlobals "len" = some none)
    (z_max : PySem.W.nsIn K mainGlobals "max" = some none)
    (z_min : PySem.W.nsIn K mainGlobals "min" = some none)
    (z_sum : PySem.W.nsIn K mainGlobals "sum" = some none)
    (z_all : PySem.W.nsIn K mainGlobals "all" = some none)
    (z_any : PySem.W.nsIn K mainGlobals "any" = some none)
    (z_abs : PySem.W.nsIn K mainGlobals "abs" = some none)
    (z_sorted : PySem.W.nsIn K mainGlobals "sorted" = some none)
    (z_range : PySem.W.nsIn K mainGlobals "range" = some none)
    (z_repr : PySem.W.nsIn K mainGlobals "repr" = some none)
    (z_isinstance : PySem.W.nsIn K mainGlobals "isinstance" = some none)
    (z_ValueError : PySem.W.nsIn K mainGlobals "ValueError" = some none)
    (gP : PySem.W.nsIn K mainGlobals "PAIR" = some (some (.int 2 tP)))
    (gM : PySem.W.nsIn K mainGlobals "MOST" = some (some (.int 1000000 tM)))
    (pg : PySem.W.plainGet K C Str.empty = true)
    (hd : PySem.W.hasDictIn K C = true)
    (po : PySem.W.plainOver K C = true)
    (sa : PySem.W.findIn K (.ref C) "__setattr__" = some (some (.builtin "object.__setattr__")))
    (mk : PySem.W.makesIn K C = true)
    (kc : PySem.W.keepIn K (.ref C) = true)
    (nP : PySem.W.findIn K (.ref C) "pairs" = some none)
    (nM : PySem.W.findIn K (.ref C) "many_positions" = some none)
    (xL : K.lookup CB = some (excClassObj nmB qB CB NB bsB [.ref CK, .type "ValueError", .type "Exception", .type "BaseException", .type "object"] true snB sbB abB coB ddB m0 m1 m2 m3 m5 "ValueError.__new__"))
    (xsa : PySem.W.findIn K (.ref CB) "__setattr__" = some (some (.builtin "object.__setattr__")))
    (xga : PySem.W.findIn K (.ref CB) "__getattribute__" = some (some (.builtin "BaseException.__getattribute__")))
    (xgg : PySem.W.findIn K (.ref CB) "__getattr__" = some none)
    (xno : PySem.W.findIn K (.ref CB) "value" = some none)
    (xi : PySem.W.findIn K (.ref CB) "__init__" = some (some (.ref fB)))
    (xt : PySem.W.typeIn K (.ref fB) = some (.type "function"))
    (xk : PySem.W.keepIn K (.ref CB) = true)
    (xex : PySem.W.subIn K (.ref CB) (.type "BaseException") = some true)
    (xty : PySem.W.typeIn K (.ref CB) = some (.type "type"))
    (xhd : PySem.W.hasDictIn K CB = true)
    (xsu : PySem.W.ks_superIn K CB CB "__init__" = some (some (.builtin "ValueError.__init__")))
    (xve : PySem.W.subIn K (.ref CB) (.type "ValueError") = some true)
    (xsf : PySem.W.mroIn K CB (.ref CB) = some true)
    (xop : PySem.W.nsIn K cStatics "thirdparty.any" = some none)
    (xns : PySem.W.nsIn K mainGlobals "super" = some none)
    (xtop : (l.prog.main.scope.names.lookup ("super" : Str)).isSome = false)
    (xf : K.lookup fB = some ⟨ocB, odB, .func (PySem.W.ksFn "__init__" "BadSpans.__init__" (sA ⟨6,17,6,21⟩ ⟨6,23,6,28⟩) (sB ⟨7,8,7,13⟩ ⟨7,8,7,15⟩ ⟨7,8,7,24⟩ ⟨7,25,7,30⟩ ⟨7,8,7,31⟩ ⟨7,8,7,31⟩ ⟨8,8,8,12⟩ ⟨8,8,8,18⟩ ⟨8,21,8,26⟩ ⟨8,8,8,26⟩) sS .none .none dcB pmB anB (.ref cdB) ctB ccB), slB⟩)
    (xcd : PySem.W.codeIn K (.ref cdB) "BadSpans.__init__" = true)
    (xco : K.lookup cdB = some ⟨cB1, cB2, .fields vsB, cB3⟩)
    (xvs : vsB[2]? = some (.str fileB tfB))
    (xfl : ((l.prog.main.file : Str) == fileB) = true)
    (xcc : K.lookup ccB = some ⟨cB4, cB5, .cell (some (.ref CB)), cB6⟩)
    (xha : PySem.W.findIn K (.ref CB) "__class__" = some (some (.builtin "object.__class__")))
    (xhn : PySem.W.specialIn K (.builtin "object.__class__") "__get__" = some (some (.builtin "getset_descriptor.__get__")))
    (xht : PySem.W.takesIn K (.builtin "object.__class__") = some true)
    (xhm : PySem.W.mroIn K CB (.type "object") = some true)
    (yex : PySem.W.subIn K (.ref CK) (.type "BaseException") = some true)
    (yhd : PySem.W.hasDictIn K CK = true)
    (yty : PySem.W.typeIn K (.ref CK) = some (.type "type"))
    (ysub : PySem.W.subIn K (.ref CB) (.ref CK) = some true)
    (kB : PySem.W.kitOne K (.ref CB) (.ref CB) = some true)
    (kV : PySem.W.kitOne K (.ref CB) (.type "ValueError") = some true)
    (a0 : PySem.W.nsIn K mainGlobals "is_integer" = some (some (.ref f0)))
    (l0 : K.lookup f0 = some ⟨oc0, od0, .func (PySem.W.fnOf "is_integer" "is_integer" (defArgs s_is_integer) (defBody s_is_integer) (defScope s_is_integer) .none kV0 dc0 pm0 an0 cd0 ct0), sl0⟩)
    (c0 : PySem.W.codeIn K cd0 "is_integer" = true)
    (k0 : PySem.W.keepIn K (.ref f0) = true)
    (a1 : PySem.W.nsIn K mainGlobals "is_span" = some (some (.ref f1)))
    (l1 : K.lookup f1 = some ⟨oc1, od1, .func (PySem.W.fnOf "is_span" "is_span" (defArgs s_is_span) (defBody s_is_span) (defScope s_is_span) .none kV1 dc1 pm1 an1 cd1 ct1), sl1⟩)
    (c1 : PySem.W.codeIn K cd1 "is_span" = true)
    (k1 : PySem.W.keepIn K (.ref f1) = true)
    (a2 : PySem.W.nsIn K mainGlobals "united" = some (some (.ref f2)))
    (l2 : K.lookup f2 = some ⟨oc2, od2, .func (PySem.W.fnOf "united" "united" (defArgs s_united) (defBody s_united) (defScope s_united) .none kV2 dc2 pm2 an2 cd2 ct2), sl2⟩)
    (c2 : PySem.W.codeIn K cd2 "united" = true)
    (k2 : PySem.W.keepIn K (.ref f2) = true)
    (a3 : PySem.W.findIn K (.ref C) "__init__" = some (some (.ref f3)))
    (i3 : PySem.W.isFn K (.ref f3) = true)
    (l3 : K.lookup f3 = some ⟨oc3, od3, .func (PySem.W.fnOf "__init__" "Spans.__init__" (defArgs s_Spans_init) (defBody s_Spans_init) (defScope s_Spans_init) .none kV3 dc3 pm3 an3 cd3 ct3), sl3⟩)
    (c3 : PySem.W.codeIn K cd3 "Spans.__init__" = true)
    (k3 : PySem.W.keepIn K (.ref f3) = true)
    (a4 : PySem.W.findIn K (.ref C) "__contains__" = some (some (.ref f4)))
    (i4 : PySem.W.isFn K (.ref f4) = true)
    (l4 : K.lookup f4 = some ⟨oc4, od4, .func (PySem.W.fnOf "__contains__" "Spans.__contains__" (defArgs s_Spans_contains) (defBody s_Spans_contains) (defScope s_Spans_contains) .none kV4 dc4 pm4 an4 cd4 ct4), sl4⟩)
    (c4 : PySem.W.codeIn K cd4 "Spans.__contains__" = true)
    (k4 : PySem.W.keepIn K (.ref f4) = true)
    (a5 : PySem.W.findIn K (.ref C) "__len__" = some (some (.ref f5)))
    (i5 : PySem.W.isFn K (.ref f5) = true)
    (l5 : K.lookup f5 = some ⟨oc5, od5, .func (PySem.W.fnOf "__len__" "Spans.__len__" (defArgs s_Spans_len) (defBody s_Spans_len) (defScope s_Spans_len) .none kV5 dc5 pm5 an5 cd5 ct5), sl5⟩)
    (c5 : PySem.W.codeIn K cd5 "Spans.__len__" = true)
    (k5 : PySem.W.keepIn K (.ref f5) = true)
    (a6 : PySem.W.nsIn K mainGlobals "_law_pot" = some (some (.ref f6)))
    (l6 : K.lookup f6 = some ⟨oc6, od6, .func (PySem.W.fnOf "_law_pot" "_law_pot" (defArgs s_law_pot) (defBody s_law_pot) (defScope s_law_pot) .none kV6 dc6 pm6 an6 cd6 ct6), sl6⟩)
    (c6 : PySem.W.codeIn K cd6 "_law_pot" = true)
    (k6 : PySem.W.keepIn K (.ref f6) = true)
    (a7 : PySem.W.nsIn K mainGlobals "_law_draw" = some (some (.ref f7)))
    (l7 : K.lookup f7 = some ⟨oc7, od7, .func (PySem.W.fnOf "_law_draw" "_law_draw" (defArgs s_law_draw) (defBody s_law_draw) (defScope s_law_draw) .none kV7 dc7 pm7 an7 cd7 ct7), sl7⟩)
    (c7 : PySem.W.codeIn K cd7 "_law_draw" = true)
    (k7 : PySem.W.keepIn K (.ref f7) = true)
    (a8 : PySem.W.nsIn K mainGlobals "_law_any" = some (some (.ref f8)))
    (l8 : K.lookup f8 = some ⟨oc8, od8, .func (PySem.W.fnOf "_law_any" "_law_any" (defArgs s_law_any) (defBody s_law_any) (defScope s_law_any) .none kV8 dc8 pm8 an8 cd8 ct8), sl8⟩)
    (c8 : PySem.W.codeIn K cd8 "_law_any" = true)
    (k8 : PySem.W.keepIn K (.ref f8) = true)
    (a9 : PySem.W.nsIn K mainGlobals "_law_places" = some (some (.ref f9)))
    (l9 : K.lookup f9 = some ⟨oc9, od9, .func (PySem.W.fnOf "_law_places" "_law_places" (defArgs s_law_places) (defBody s_law_places) (defScope s_law_places) .none kV9 dc9 pm9 an9 cd9 ct9), sl9⟩)
    (c9 : PySem.W.codeIn K cd9 "_law_places" = true)
    (k9 : PySem.W.keepIn K (.ref f9) = true)
    (a10 : PySem.W.nsIn K mainGlobals "_law_couples" = some (some (.ref f10)))
    (l10 : K.lookup f10 = some ⟨oc10, od10, .func (PySem.W.fnOf "_law_couples" "_law_couples" (defArgs s_law_couples) (defBody s_law_couples) (defScope s_law_couples) .none kV10 dc10 pm10 an10 cd10 ct10), sl10⟩)
    (c10 : PySem.W.codeIn K cd10 "_law_couples" = true)
    (k10 : PySem.W.keepIn K (.ref f10) = true)
    (a11 : PySem.W.nsIn K mainGlobals "_law_drawn" = some (some (.ref f11)))
    (l11 : K.lookup f11 = some ⟨oc11, od11, .func (PySem.W.fnOf "_law_drawn" "_law_drawn" (defArgs s_law_drawn) (defBody s_law_drawn) (defScope s_law_drawn) .none kV11 dc11 pm11 an11 cd11 ct11), sl11⟩)
    (c11 : PySem.W.codeIn K cd11 "_law_drawn" = true)
    (k11 : PySem.W.keepIn K (.ref f11) = true)
    (a12 : PySem.W.nsIn K mainGlobals "_law_odd" = some (some (.ref f12)))
    (l12 : K.lookup f12 = some ⟨oc12, od12, .func (PySem.W.fnOf "_law_odd" "_law_odd" (defArgs s_law_odd) (defBody s_law_odd) (defScope s_law_odd) .none kV12 dc12 pm12 an12 cd12 ct12), sl12⟩)
    (c12 : PySem.W.codeIn K cd12 "_law_odd" = true)
    (k12 : PySem.W.keepIn K (.ref f12) = true)
    (a13 : PySem.W.nsIn K mainGlobals "_law_is_couple" = some (some (.ref f13)))
    (l13 : K.lookup f13 = some ⟨oc13, od13, .func (PySem.W.fnOf "_law_is_couple" "_law_is_couple" (defArgs s_law_is_couple) (defBody s_law_is_couple) (defScope s_law_is_couple) .none kV13 dc13 pm13 an13 cd13 ct13), sl13⟩)
    (c13 : PySem.W.codeIn K cd13 "_law_is_couple" = true)
    (k13 : PySem.W.keepIn K (.ref f13) = true)
    (a14 : PySem.W.nsIn K mainGlobals "_law_made" = some (some (.ref f14)))
    (l14 : K.lookup f14 = some ⟨oc14, od14, .func (PySem.W.fnOf "_law_made" "_law_made" (defArgs s_law_made) (defBody s_law_made) (defScope s_law_made) .none kV14 dc14 pm14 an14 cd14 ct14), sl14⟩)
    (c14 : PySem.W.codeIn K cd14 "_law_made" = true)
    (k14 : PySem.W.keepIn K (.ref f14) = true)
    (a15 : PySem.W.nsIn K mainGlobals "_law_met" = some (some (.ref f15)))
    (l15 : K.lookup f15 = some ⟨oc15, od15, .func (PySem.W.fnOf "_law_met" "_law_met" (defArgs s_law_met) (defBody s_law_met) (defScope s_law_met) .none kV15 dc15 pm15 an15 cd15 ct15), sl15⟩)
    (c15 : PySem.W.codeIn K cd15 "_law_met" = true)
    (k15 : PySem.W.keepIn K (.ref f15) = true)
    (a16 : PySem.W.nsIn K mainGlobals "_law_is_right" = some (some (.ref f16)))
    (l16 : K.lookup f16 = some ⟨oc16, od16, .func (PySem.W.fnOf "_law_is_right" "_law_is_right" (defArgs s_law_is_right) (defBody s_law_is_right) (defScope s_law_is_right) .none kV16 dc16 pm16 an16 cd16 ct16), sl16⟩)
    (c16 : PySem.W.codeIn K cd16 "_law_is_right" = true)
    (k16 : PySem.W.keepIn K (.ref f16) = true)
    (a17 : PySem.W.nsIn K mainGlobals "_law_right" = some (some (.ref f17)))
    (l17 : K.lookup f17 = some ⟨oc17, od17, .func (PySem.W.fnOf "_law_right" "_law_right" (defArgs s_law_right) (defBody s_law_right) (defScope s_law_right) .none kV17 dc17 pm17 an17 cd17 ct17), sl17⟩)
    (c17 : PySem.W.codeIn K cd17 "_law_right" = true)
    (k17 : PySem.W.keepIn K (.ref f17) = true)
    (a18 : PySem.W.nsIn K mainGlobals "law" = some (some (.ref f18)))
    (l18 : K.lookup f18 = some ⟨oc18, od18, .func (PySem.W.fnOf "law" "law" (defArgs s_law) (defBody s_law) (defScope s_law) .none kV18 dc18 pm18 an18 cd18 ct18), sl18⟩)
    (c18 : PySem.W.codeIn K cd18 "law" = true)
    (k18 : PySem.W.keepIn K (.ref f18) = true)
    : ∃ fd : FuncData, (∀ (s : Shared) (v : Value), BindsTo s fd ⟨[v], []⟩ [("_law_script", v)]) ∧ ∀ base : Heap, K.In base → base.Ns mainGlobals mg → FnG l.prog w K mg base CX0 8 fa fd ["_law_script"] (spLaw K) := by
  have e := hfa.symm.trans (PySem.W.mg_of X G a18)
  cases e
  have T : Tx7 l.prog K mg C CB CK fB := ⟨PySem.W.mg_none_of X G z_int, PySem.W.mg_none_of X G z_bool, PySem.W.mg_none_of X G z_tuple, PySem.W.mg_none_of X G z_len, PySem.W.mg_none_of X G z_max, PySem.W.mg_none_of X G z_min, PySem.W.mg_none_of X G z_sum, PySem.W.mg_none_of X G z_all, PySem.W.mg_none_of X G z_any, PySem.W.mg_none_of X G z_abs, PySem.W.mg_none_of X G z_sorted, PySem.W.mg_none_of X G z_range, PySem.W.mg_none_of X G z_repr, PySem.W.mg_none_of X G z_isinstance, PySem.W.mg_none_of X G z_ValueError, ⟨tP, PySem.W.mg_of X G gP⟩, ⟨tM, PySem.W.mg_of X G gM⟩, PySem.W.mg_of X G aC, PySem.W.mg_of X G aB, PySem.W.mg_of X G aK, ⟨pg, hd, po, sa⟩, nP, nM, ⟨⟨_, _, _, _, _, _, _, _, _, _, _, _, _, _, _, xL, rfl⟩, xsa, xga, xgg, xno, xi, xt, xk, xex, xty, xhd, xsu, xve, xsf, xop, xns, xtop, ⟨_, _, _, _, _, _, _, _, _, _, _, _, _, _, _, _, _, _, _, _, _, xf, (fun env => by rfl), xcd, ⟨_, _, _, _, _, _, xco, xvs, xfl⟩, _, _, _, xcc⟩⟩, ⟨xga, xgg, xex, xhd, xha, xhn, xht, xhm⟩, ⟨xga, xgg, xex, xhd⟩, PySem.W.exm_ref yex yhd yty ysub, kB, kV⟩
  have F0 := fd_mk (st := s_is_integer) l0 c0 k0
  have b0 := (fun_mk (st := s_is_integer) l0 c0 k0).binds (ps := ["value"]) fun _ _ _ _ _ _ us hl => match us, hl with | [_], _ => rfl
  have F1 := fd_mk (st := s_is_span) l1 c1 k1
  have b1 := (fun_mk (st := s_is_span) l1 c1 k1).binds (ps := ["value"]) fun _ _ _ _ _ _ us hl => match us, hl with | [_], _ => rfl
  have F2 := fd_mk (st := s_united) l2 c2 k2
  have b2 := (fun_mk (st := s_united) l2 c2 k2).binds (ps := ["pairs"]) fun _ _ _ _ _ _ us hl => match us, hl with | [_], _ => rfl
  have F3 := fd_mk (st := s_Spans_init) l3 c3 k3
  have F4 := fd_mk (st := s_Spans_contains) l4 c4 k4
  have b4 := (fun_mk (st := s_Spans_contains) l4 c4 k4).binds (ps := ["self", "position"]) fun _ _ _ _ _ _ us hl => match us, hl with | [_, _], _ => rfl
  have F5 := fd_mk (st := s_Spans_len) l5 c5 k5
  have b5 := (fun_mk (st := s_Spans_len) l5 c5 k5).binds (ps := ["self"]) fun _ _ _ _ _ _ us hl => match us, hl with | [_], _ => rfl
  have F6 := fd_mk (st := s_law_pot) l6 c6 k6
  have b6 := (fun_mk (st := s_law_pot) l6 c6 k6).binds (ps := ["_law_script", "_law_k"]) fun _ _ _ _ _ _ us hl => match us, hl with | [_, _], _ => rfl
  have F7 := fd_mk (st := s_law_draw) l7 c7 k7
  have b7 := (fun_mk (st := s_law_draw) l7 c7 k7).binds (ps := ["_law_pot_here", "_law_many"]) fun _ _ _ _ _ _ us hl => match us, hl with | [_, _], _ => rfl
  have F8 := fd_mk (st := s_law_any) l8 c8 k8
  have b8 := (fun_mk (st := s_law_any) l8 c8 k8).binds (ps := ["_law_pot_here", "_law_items"]) fun _ _ _ _ _ _ us hl => match us, hl with | [_, _], _ => rfl
  have F9 := fd_mk (st := s_law_places) l9 c9 k9
  have b9 := (fun_mk (st := s_law_places) l9 c9 k9).binds (ps := ["_law_couples_here"]) fun _ _ _ _ _ _ us hl => match us, hl with | [_], _ => rfl
  have F10 := fd_mk (st := s_law_couples) l10 c10 k10
  have b10 := (fun_mk (st := s_law_couples) l10 c10 k10).binds (ps := ["_law_places_here"]) fun _ _ _ _ _ _ us hl => match us, hl with | [_], _ => rfl
  have F11 := fd_mk (st := s_law_drawn) l11 c11 k11
  have b11 := (fun_mk (st := s_law_drawn) l11 c11 k11).binds (ps := ["_law_pot_here", "_law_most", "_law_wide"]) fun _ _ _ _ _ _ us hl => match us, hl with | [_, _, _], _ => rfl
  have F12 := fd_mk (st := s_law_odd) l12 c12 k12
  have b12 := (fun_mk (st := s_law_odd) l12 c12 k12).binds (ps := ["_law_pot_here"]) fun _ _ _ _ _ _ us hl => match us, hl with | [_], _ => rfl
  have F13 := fd_mk (st := s_law_is_couple) l13 c13 k13
  have b13 := (fun_mk (st := s_law_is_couple) l13 c13 k13).binds (ps := ["_law_thing"]) fun _ _ _ _ _ _ us hl => match us, hl with | [_], _ => rfl
  have F14 := fd_mk (st := s_law_made) l14 c14 k14
  have b14 := (fun_mk (st := s_law_made) l14 c14 k14).binds (ps := ["_law_some"]) fun _ _ _ _ _ _ us hl => match us, hl with | [_], _ => rfl
  have F15 := fd_mk (st := s_law_met) l15 c15 k15
  have b15 := (fun_mk (st := s_law_met) l15 c15 k15).binds (ps := ["_law_some"]) fun _ _ _ _ _ _ us hl => match us, hl with | [_], _ => rfl
  have F16 := fd_mk (st := s_law_is_right) l16 c16 k16
  have b16 := (fun_mk (st := s_law_is_right) l16 c16 k16).binds (ps := ["_law_spans", "_law_places_here"]) fun _ _ _ _ _ _ us hl => match us, hl with | [_, _], _ => rfl
  have F17 := fd_mk (st := s_law_right) l17 c17 k17
  have b17 := (fun_mk (st := s_law_right) l17 c17 k17).binds (ps := ["_law_pot_here"]) fun _ _ _ _ _ _ us hl => match us, hl with | [_], _ => rfl
  have F18 := fd_mk (st := s_law) l18 c18 k18
  refine ⟨PySem.W.fnOf "law" "law" (defArgs s_law) (defBody s_law) (defScope s_law) .none kV18 dc18 pm18 an18 cd18 ct18, fun s v => .of_eq rfl, fun base _ _ => ?_⟩
  have D_is_integer : Cal l.prog w K mg base 1 "is_integer" ["value"] (spInt7 K) f0 _ := ⟨ok_is_integer T  F0, PySem.W.mg_of X G a0, k0, b0⟩
  have D_is_span : Cal l.prog w K mg base 2 "is_span" ["value"] (spSpan7 K) f1 _ := ⟨ok_is_span T D_is_integer F1, PySem.W.mg_of X G a1, k1, b1⟩
  have D_united : Cal l.prog w K mg base 1 "united" ["pairs"] (spUnited K) f2 _ := ⟨ok_united T  F2, PySem.W.mg_of X G a2, k2, b2⟩
  have g3 : FnR l.prog w K mg base (L2.CX l.prog w) 3 f3 (spMade7 K C CB) := ok_Spans_init T D_is_span D_united F3
  have SX : SpX7 l.prog w K mg base C f3 CB := ⟨⟨mk, a3, i3, kc⟩, g3, PySem.W.mg_of X G aC⟩
  have g5 : MethOk l.prog w K mg base C 1 "__len__" ["self"] (spLen C) := ⟨_, _, ok_Spans_len T  F5, b5, a5, i5⟩
  have g4 : MethOk l.prog w K mg base C 2 "__contains__" ["self", "position"] (spIn7 K C) := ⟨_, _, ok_Spans_contains T D_is_integer F4, b4, a4, i4⟩
  have SO : SpO7 l.prog w K mg base C := ⟨g4, g5⟩
  have D_law_pot : Cal l.prog w K mg base 1 "_law_pot" ["_law_script", "_law_k"] (spPot K) f6 _ := ⟨ok_law_pot T  F6, PySem.W.mg_of X G a6, k6, b6⟩
  have D_law_draw : Cal l.prog w K mg base 1 "_law_draw" ["_law_pot_here", "_law_many"] (spDraw) f7 _ := ⟨ok_law_draw T  F7, PySem.W.mg_of X G a7, k7, b7⟩
  have D_law_any : Cal l.prog w K mg base 2 "_law_any" ["_law_pot_here", "_law_items"] (spAny) f8 _ := ⟨ok_law_any T D_law_draw F8, PySem.W.mg_of X G a8, k8, b8⟩
  have D_law_places : Cal l.prog w K mg base 1 "_law_places" ["_law_couples_here"] (spPlaces7) f9 _ := ⟨ok_law_places T  F9, PySem.W.mg_of X G a9, k9, b9⟩
  have D_law_couples : Cal l.prog w K mg base 1 "_law_couples" ["_law_places_here"] (spCouples) f10 _ := ⟨ok_law_couples T  F10, PySem.W.mg_of X G a10, k10, b10⟩
  have D_law_drawn : Cal l.prog w K mg base 3 "_law_drawn" ["_law_pot_here", "_law_most", "_law_wide"] (spDrawn7) f11 _ := ⟨ok_law_drawn T D_law_draw D_law_any F11, PySem.W.mg_of X G a11, k11, b11⟩
  have D_law_odd : Cal l.prog w K mg base 3 "_law_odd" ["_law_pot_here"] (spOdd K) f12 _ := ⟨ok_law_odd T D_law_any F12, PySem.W.mg_of X G a12, k12, b12⟩
  have D_law_is_couple : Cal l.prog w K mg base 1 "_law_is_couple" ["_law_thing"] (spCoup K) f13 _ := ⟨ok_law_is_couple T  F13, PySem.W.mg_of X G a13, k13, b13⟩
  have D_law_made : CalX l.prog w K mg base 5 "_law_made" ["_law_some"] (spMadeL K C CB) f14 _ := ⟨ok_law_made T SX  F14, PySem.W.mg_of X G a14, k14, b14⟩
  have D_law_met : CalG l.prog w K mg base 6 "_law_met" ["_law_some"] (spMet K C) f15 _ := ⟨ok_law_met T D_law_made F15, PySem.W.mg_of X G a15, k15, b15⟩
  have D_law_is_right : Cal l.prog w K mg base 5 "_law_is_right" ["_law_spans", "_law_places_here"] (spIsR C) f16 _ := ⟨ok_law_is_right T SO D_law_couples F16, PySem.W.mg_of X G a16, k16, b16⟩
  have D_law_right : CalG l.prog w K mg base 7 "_law_right" ["_law_pot_here"] (spRight7) f17 _ := ⟨ok_law_right T D_law_draw D_law_places D_law_drawn D_law_odd D_law_is_couple D_law_met D_law_is_right F17, PySem.W.mg_of X G a17, k17, b17⟩
  exact ok_law T D_law_pot D_law_right F18
theorem walk {l : PySem.W.OpenLaw} {q : Program} {loose : List Str} {XP : (Str → Option Value) → Heap → Prop} {YP : World → Heap → Prop} {d : DefRec} {K : Params → PySem.W.Frag} (hn : l.most = some 63) (hdf : d.params.defaults = [])
    (hY : ∀ (w : World) (h : Heap), YP w h → (K w.params).In h)
    (F : ∀ (w : World) (mg : Str → Option Value) (fa : Addr) (h : Heap), (K w.params).In h → h.Ns mainGlobals mg → mg d.name = some (.ref fa) →
      ∃ fd : FuncData, (∀ (s : Shared) (u : Value), BindsTo s fd ⟨[u], []⟩ [("_law_script", u)]) ∧ ∀ base : Heap, (K w.params).In base → base.Ns mainGlobals mg → FnG l.prog w (K w.params) mg base CX0 8 fa fd ["_law_script"] (spLaw (K w.params))) :
    PySem.W.WalkO q loose XP YP l.row.toRowW d [] (fun f vs => PySem.call f vs) :=
  walkG (n := 63) (k := 8) (x := "_law_script") (sp := fun w => spLaw (K w.params)) hn (by decide) hdf ⟨rfl, by decide, by decide⟩ hY F (fun _ _ a ns _ _ _ hS => ⟨a, ns, rfl, hS, fun _ => rfl⟩)
end S1
open PySem PySem.W PyProof.Rows in
set_option maxRecDepth 100000 in
set_option maxHeartbeats 0 in
theorem PySem.Challenge.cw_oneedition_k37_spans_of_any_values_holds : PySem.Challenge.rw_oneedition_k37_spans_of_any_values.Holds := by
  w_on; o_law; k_head; (case hw => w_witness2)
  k_fill
  refine S1.walk (l := PySem.Challenge.rw_oneedition_k37_spans_of_any_values) rfl rfl (fun w h Y => PySem.W.kIn_of Y) ?F
  case F =>
    intro w mg fa h KX G hmg
    refine' S1.all_mk KX G hmg ?aC ?aB ?aK ?z_int ?z_bool ?z_tuple ?z_len ?z_max ?z_min ?z_sum ?z_all ?z_any ?z_abs ?z_sorted ?z_range ?z_repr ?z_isinstance ?z_ValueError ?gP ?gM ?pg ?hd ?po ?sa ?mk ?kc ?nP ?nM ?xL ?xsa ?xga ?xgg ?xno ?xi ?xt ?xk ?xex ?xty ?xhd ?xsu ?xve ?xsf ?xop ?xns ?xtop ?xf ?xcd ?xco ?xvs ?xfl ?xcc ?xha ?xhn ?xht ?xhm ?yex ?yhd ?yty ?ysub ?kB ?kV ?a0 ?l0 ?c0 ?k0 ?a1 ?l1 ?c1 ?k1 ?a2 ?l2 ?c2 ?k2 ?a3 ?i3 ?l3 ?c3 ?k3 ?a4 ?i4 ?l4 ?c4 ?k4 ?a5 ?i5 ?l5 ?c5 ?k5 ?a6 ?l6 ?c6 ?k6 ?a7 ?l7 ?c7 ?k7 ?a8 ?l8 ?c8 ?k8 ?a9 ?l9 ?c9 ?k9 ?a10 ?l10 ?c10 ?k10 ?a11 ?l11 ?c11 ?k11 ?a12 ?l12 ?c12 ?k12 ?a13 ?l13 ?c13 ?k13 ?a14 ?l14 ?c14 ?k14 ?a15 ?l15 ?c15 ?k15 ?a16 ?l16 ?c16 ?k16 ?a17 ?l17 ?c17 ?k17 ?a18 ?l18 ?c18 ?k18
    (case aC => k_is)
    (case aB => k_is)
    (case aK => k_is)
    (case z_int => k_is)
    (case z_bool => k_is)
    (case z_tuple => k_is)
    (case z_len => k_is)
    (case z_max => k_is)
    (case z_min => k_is)
    (case z_sum => k_is)
    (case z_all => k_is)
    (case z_any => k_is)
    (case z_abs => k_is)
    (case z_sorted => k_is)
    (case z_range => k_is)
    (case z_repr => k_is)
    (case z_isinstance => k_is)
    (case z_ValueError => k_is)
    (case gP => k_is)
    (case gM => k_is)
    (case pg => k_is)
    (case hd => k_is)
    (case po => k_is)
    (case sa => k_is)
    (case mk => k_is)
    (case kc => k_is)
    (case nP => k_is)
    (case nM => k_is)
    (case xL => k_is)
    (case xsa => k_is)
    (case xga => k_is)
    (case xgg => k_is)
    (case xno => k_is)
    (case xi => k_is)
    (case xt => k_is)
    (case xk => k_is)
    (case xex => k_is)
    (case xty => k_is)
    (case xhd => k_is)
    (case xsu => ks_is)
    (case xve => k_is)
    (case xsf => k_is)
    (case xop => k_is)
    (case xns => k_is)
    (case xtop => exact rfl)
    (case xf => k_is)
    (case xcd => k_is)
    (case xco => k_is)
    (case xvs => exact rfl)
    (case xfl => exact (by decide +kernel))
    (case xcc => k_is)
    (case xha => k_is)
    (case xhn => k_is)
    (case xht => k_is)
    (case xhm => k_is)
    (case yex => k_is)
    (case yhd => k_is)
    (case yty => k_is)
    (case ysub => k_is)
    (case kB => kit_is)
    (case kV => kit_is)
    (case a0 => k_is)
    (case l0 => k_is)
    (case c0 => k_is)
    (case k0 => k_is)
    (case a1 => k_is)
    (case l1 => k_is)
    (case c1 => k_is)
    (case k1 => k_is)
    (case a2 => k_is)
    (case l2 => k_is)
    (case c2 => k_is)
    (case k2 => k_is)
    (case a3 => k_is)
    (case i3 => k_is)
    (case l3 => k_is)
    (case c3 => k_is)
    (case k3 => k_is)
    (case a4 => k_is)
    (case i4 => k_is)
    (case l4 => k_is)
    (case c4 => k_is)
    (case k4 => k_is)
    (case a5 => k_is)
    (case i5 => k_is)
    (case l5 => k_is)
    (case c5 => k_is)
    (case k5 => k_is)
    (case a6 => k_is)
    (case l6 => k_is)
    (case c6 => k_is)
    (case k6 => k_is)
    (case a7 => k_is)
    (case l7 => k_is)
    (case c7 => k_is)
    (case k7 => k_is)
    (case a8 => k_is)
    (case l8 => k_is)
    (case c8 => k_is)
    (case k8 => k_is)
    (case a9 => k_is)
    (case l9 => k_is)
    (case c9 => k_is)
    (case k9 => k_is)
    (case a10 => k_is)
    (case l10 => k_is)
    (case c10 => k_is)
    (case k10 => k_is)
    (case a11 => k_is)
    (case l11 => k_is)
    (case c11 => k_is)
    (case k11 => k_is)
    (case a12 => k_is)
    (case l12 => k_is)
    (case c12 => k_is)
    (case k12 => k_is)
    (case a13 => k_is)
    (case l13 => k_is)
    (case c13 => k_is)
    (case k13 => k_is)
    (case a14 => k_is)
    (case l14 => k_is)
    (case c14 => k_is)
    (case k14 => k_is)
    (case a15 => k_is)
    (case l15 => k_is)
    (case c15 => k_is)
    (case k15 => k_is)
    (case a16 => k_is)
    (case l16 => k_is)
    (case c16 => k_is)
    (case k16 => k_is)
    (case a17 => k_is)
    (case l17 => k_is)
    (case c17 => k_is)
    (case k17 => k_is)
    (case a18 => k_is)
    (case l18 => k_is)
    (case c18 => k_is)
    (case k18 => k_is)
#print axioms PySem.Challenge.cw_oneedition_k37_spans_of_any_values_holds
