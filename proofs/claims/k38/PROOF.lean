import PyProof.Rows.All
import Wide.All
import OpenK.AllK
import Wide.FinOn
import HandS.ForMost
import HandS.More
import HandS.Star
import HandS.SortRule
import HandS.SortInts
import HandS.Conv
import HandS.Wide
import HandS.Flow
import HandS.IsInst
import HandS.Defaults
import HandS.NoneIn
import HandS.ListItems
import HandS.DictComp
import HandS.OwnEq
import HandS.Style
import HandS.TupAny
import KE.RegKIsAll
import PySem.Challenge.RW_oneedition_k38_whole_rules_of_spans
set_option Elab.async false
set_option linter.all false
set_option maxRecDepth 100000
set_option maxHeartbeats 4000000
/-! Rules of our own over the hand layer. -/
namespace S1
open PySem PySem.Spec PyProof.Rows L2 StX
section
variable {X : Cx}
/-- a ** b where the result stays below 2^27 bits -/
theorem op_powW : OpR X (binaryOp .Pow) (rI (fun i j => 0 ≤ j ∧ (Builtin.Int.intBits i : Int) * j ≤ 2 ^ 27) fun i j => .int (i ^ j.toNat)) := opI fun _ _ _ _ _ _ _ hc q => pow_int hc.1 hc.2 q

/-! ### three comparisons in a row -/
variable {a b c d : Expr} {ta tb tc td : TE} {pos : Pos} {op op' op2 : CmpOp} {r r' r2 : R2}
def tChain3 (r r' r2 : R2) (ta tb tc td : TE) : TE := fun σ H Q => ta σ H fun x H1 => tb σ H1 fun y H2 => r x y H2 fun z H3 => ∃ k, z = .bl k ∧
  (if k = true then tc σ H3 fun w' H4 => r' y w' H4 fun z' H5 => ∃ k', z' = .bl k' ∧ (if k' = true then td σ H5 fun v' H6 => r2 w' v' H6 Q else Q (.bl false) H5) else Q (.bl false) H3)
theorem pe_chain3 (ho : OpR X (compareOp op) r) (ho' : OpR X (compareOp op') r') (ho2 : OpR X (compareOp op2) r2) (ha : PE X a ta) (hb : PE X b tb) (hc : PE X c tc) (hd : PE X d td)
    (hm : lastMarks [op, op', op2] [b, c, d] = false := by with_unfolding_all rfl) : PE X (.Compare a [op, op', op2] [b, c, d] pos) (tChain3 r r' r2 ta tb tc td) := by
  refine ⟨fun pins s σ H Q I h => ?_⟩
  refine Compare_chain (thn (ha.run pins s σ H _ I h) fun v s1 ⟨x, H1, I1, r1, q1⟩ => chain_link (thn (hb.run pins s1 σ H1 _ I1 q1) fun u s2 ⟨y, H2, I2, r2, q2⟩ =>
    thn (ho pins s2 σ H2 x y v u _ I2 r1 r2 q2) fun d s3 ⟨z, H3, I3, r3, k, e, q3⟩ => ?_)) hm
  subst e
  cases r3
  refine wpAny_truthy_bool ?_
  cases k with
  | false => exact ite_ff ⟨.bl false, H3, I3, rfl, q3⟩
  | true =>
    refine ite_tt (chain_link (thn (hc.run pins s3 σ H3 _ I3 q3) fun w' s4 ⟨z', H4, I4, r4, q4⟩ => thn (ho' pins s4 σ H4 y z' u w' _ I4 r2 r4 q4) fun d' s5 ⟨z2, H5, I5, r5, k2, e2, q5⟩ => ?_))
    subst e2
    cases r5
    refine wpAny_truthy_bool ?_
    cases k2 with
    | false => exact ite_ff ⟨.bl false, H5, I5, rfl, q5⟩
    | true => exact ite_tt (chain_last (thn (hd.run pins s5 σ H5 _ I5 q5) fun w2 s6 ⟨z3, H6, I6, r6, q6⟩ => ho2 pins s6 σ H6 z' z3 w' w2 Q I6 r4 r6 q6))

/-! ### a list or a tuple that is walked -/
variable {tg l : Expr} {tl : TE}
def iSeq (K : PySem.W.Frag) (tl : TE) : TI := fun σ H R => tl σ H fun x H1 => ∃ a, x = .ref a ∧ (((∃ xs, SqL K H1 a xs) ∧ R (Itl K a) H1) ∨ ((∃ xs, SqT K H1 a xs) ∧ R (Itt K a) H1))
theorem pi_seq (hl : PE X l tl) : PI X tg l (iSeq X.K tl) := by
  refine ⟨fun pins s σ H R I h => ?_⟩
  refine thn (hl.run pins s σ H _ I h) fun v s1 ⟨x, H1, I1, r1, q1⟩ => ?_
  obtain ⟨a, e, ⟨⟨xs, hq⟩, q⟩ | ⟨⟨xs, hq⟩, q⟩⟩ := q1
  · subst e
    cases r1
    obtain ⟨its, rv, p, hz⟩ := I1.list hq
    refine wpAny_pyIter_list p.isList ?_
    refine ⟨s1.heap.objs.size, [s1.heap.objs.size], _, _, H1, rfl, I1.kept (t' := s1.toks) fun b o e => Heap.get?_push_of_some _ e, turn_list a _, ⟨_, Heap.get?_push_size _ rfl, rfl, rfl⟩, fun b hb => ?_, q⟩
    have e : b = s1.heap.objs.size := by simpa using hb
    subst e
    exact I1.fpOk (Nat.le_refl _) (I1.hok.fresh (Nat.le_refl _))
  · subst e
    cases r1
    obtain ⟨its, rv, p, hz⟩ := I1.tuple hq
    refine wpAny_pyIter_tuple (show s1.heap.IsTuple a its.toArray from p) ?_
    refine ⟨s1.heap.objs.size, [s1.heap.objs.size], _, _, H1, rfl, I1.kept (t' := s1.toks) fun b o e => Heap.get?_push_of_some _ e, turn_tuple a _, ⟨_, Heap.get?_push_size _ rfl, rfl, rfl⟩, fun b hb => ?_, q⟩
    have e : b = s1.heap.objs.size := by simpa using hb
    subst e
    exact I1.fpOk (Nat.le_refl _) (I1.hok.fresh (Nat.le_refl _))

/-! ### C(*xs, ..) -/
variable {CX : CXT} {k : Nat} {f C : Addr} {sp : Sp} {E : XK} {x : Str} {e : Expr} {es : List Expr} {t : TA} {p sp_ : Pos}
theorem evalArgs_star {M : Model} {A : Around} {Ee : Value → Shared → Prop} {s : Shared} {fv : Value} {x0 : Sem Value} {y0 : Bool × Sem Value} {rest : List (Bool × Sem Value)} {Q : Args → Shared → Prop}
    (h : wpAny M A (spliced ((true, x0) :: y0 :: rest)) (fun vs s1 => Q ⟨vs, []⟩ s1) Ee s) : wpAny M A (evalArgs fv true ((true, x0) :: y0 :: rest) []) Q Ee s := by
  unfold evalArgs
  show wpAny M A (spliced ((true, x0) :: y0 :: rest) >>= _) Q Ee s
  refine wpAny_bind (wpAny_mono h (fun vs s' h' => ?_) fun _ _ x => x)
  refine wpAny_holding ?_
  exact wpAny_bind (wpAny_pure (wpAny_bind (wpAny_pure (wpAny_pure h'))))
/-- C(*y) -/
theorem pe_makeS1 (M : Mk X.K C f) (F : FnR X.prog X.w X.K X.mg X.base CX k f sp) (hr : Room (k + 1) X.A) (hg : Gl X x) (hm : X.mg x = some (.ref C)) (hx : Passes CX X E) {te : TE} (he : PE X e te) (hdb : (x == ("__debug__" : Str)) = false := by decide)
    (hst : starEach [.Starred e sp_] X.env = [(true, eval e X.env)] := by rfl) : PE X (.Call (.Name x p) [.Starred e sp_] [] pos) (tMakeR C sp E (tStar X.K te tNil)) := by
  refine ⟨fun pins s σ H Q I h => ?_⟩
  refine wpAny_Call_Name_kw (ld_glob I hg hm ?_ hdb)
  refine PySem.W.callWith_S (h₀ := X.base) I.ok.mod.kin M.kp (thn (he.run pins s σ H _ I h) fun v s1 ⟨y, H1, I1, ry, a, xs, ey, hxs, q⟩ => ?_) hst
  subst ey
  obtain rfl : v = Value.ref a := ry
  have q' : ∀ x dx, H1 x = Option.none → H1 dx = Option.none → dx ≠ x → sp (V.ref x :: xs) (upd (upd H1 dx (.own x)) x (.ins C dx [])) (fun v H2 => v = .non ∧ Q (.ref x) H2) E := by
    have z : ∀ x dx, H1 x = Option.none → H1 dx = Option.none → dx ≠ x → sp (V.ref x :: (xs ++ [])) (upd (upd H1 dx (.own x)) x (.ins C dx [])) (fun v H2 => v = .non ∧ Q (.ref x) H2) E := q
    rw [List.append_nil] at z
    exact z
  exact StX.star_any I1 hxs fun us s2 I2 rv => ⟨I2.kIn, StX.run_makeR M F hr hx I2 rv q'⟩
/-- C(*y, ..) -/
theorem pe_makeS2 (M : Mk X.K C f) (F : FnR X.prog X.w X.K X.mg X.base CX k f sp) (hr : Room (k + 1) X.A) (hg : Gl X x) (hm : X.mg x = some (.ref C)) (hx : Passes CX X E) {e2 : Expr} (ha : PA X (.Starred e sp_ :: e2 :: es) t) (hdb : (x == ("__debug__" : Str)) = false := by decide)
    (hst : ∃ b y rest, backTo pos (starEach (.Starred e sp_ :: e2 :: es) X.env) = (true, b) :: y :: rest := by exact ⟨_, _, _, rfl⟩) : PE X (.Call (.Name x p) (.Starred e sp_ :: e2 :: es) [] pos) (tMakeR C sp E t) := by
  refine ⟨fun pins s σ H Q I h => ?_⟩
  refine wpAny_Call_Name_kw (ld_glob I hg hm ?_ hdb)
  have z := thn (ha.run pos pins s σ H _ I h) fun us s1 ⟨vs, H1, I1, r, q⟩ => (show X.K.In s1.heap ∧ wpAny (model X.prog X.w) X.A (call (.ref C) us) (EP X pins σ Q) X.xe s1 from ⟨I1.kIn, StX.run_makeR M F hr hx I1 r q⟩)
  obtain ⟨b, y, rest, hb⟩ := hst
  show wpAny (model X.prog X.w) X.A (callWith pos (.ref C) [] (backTo pos (starEach (.Starred e sp_ :: e2 :: es) X.env)) []) _ _ s
  rw [hb] at z ⊢
  exact PySem.W.ks_call rfl (PySem.W.keeps_K M.kp) (evalArgs_star z)
/-- C() -/
theorem pe_makeR0 (M : Mk X.K C f) (F : FnR X.prog X.w X.K X.mg X.base CX k f sp) (hr : Room (k + 1) X.A) (hg : Gl X x) (hm : X.mg x = some (.ref C)) (hx : Passes CX X E) (hdb : (x == ("__debug__" : Str)) = false := by decide) : PE X (.Call (.Name x p) [] [] pos) (tMakeR C sp E tNil) := by
  refine ⟨fun pins s σ H Q I h => ?_⟩
  refine wpAny_Call_Name_kw (ld_glob I hg hm ?_ hdb)
  exact PySem.W.callWith_K0 I.kIn M.kp (StX.run_makeR (us := []) M F hr hx I .nil h)
end

/-! ### operators of an own class -/
section
variable {X : Cx} {CX : CXT} {k : Nat} {f C : Addr} {fd : FuncData} {ps : List Str} {sp : Sp} {E : XK}
theorem notimpl_of {v : V} {u : Value} (r : RelV v u) : u ≠ .notImplemented := by
  cases v with
  | non => cases r; intro h; cases h
  | bl _ => cases r; intro h; cases h
  | int _ => obtain ⟨t, rfl⟩ := r; intro h; cases h
  | str _ => obtain ⟨t, rfl⟩ := r; intro h; cases h
  | byt _ => obtain ⟨t, rfl⟩ := r; intro h; cases h
  | flt _ => obtain ⟨t, rfl⟩ := r; intro h; cases h
  | ref _ => cases r; intro h; cases h
  | ty _ => cases r; intro h; cases h
theorem cmpBack_of {Q : Value → Shared → Prop} {u : Value} {s : Shared} (h : u ≠ .notImplemented) (q : Q u s) : PySem.W.CmpBack Q u s := by
  unfold PySem.W.CmpBack
  cases u <;> first | exact absurd rfl h | exact q
/-- one op other, both of the class at C, by its own method -/
def rOwn (C : Addr) (sp : Sp) (E : XK) : R2 := fun x y H Q => ∃ a b dx dy fs gs, x = .ref a ∧ y = .ref b ∧ H a = some (.ins C dx fs) ∧ H b = some (.ins C dy gs) ∧ sp [.ref a, .ref b] H Q E
theorem op_own {op : Operator} (F : FnOk X.prog X.w X.K X.mg X.base CX k f fd ps sp) (hr : Room k X.A) (hb : Binds X.K fd ps []) (hx : Passes CX X E) (hc : PySem.W.selfFirst X.K C = true)
    (hs : PySem.W.findIn X.K (.ref C) (PySem.dunder op.info.2) = some (some (.ref f))) (hf : PySem.W.isFn X.K (.ref f) = true) : OpR X (binaryOp op) (rOwn C sp E) := by
  intro pins s σ H x y v u Q I rx ry h
  obtain ⟨a, b, dx, dy, fs, gs, rfl, rfl, ha, hb', hsp⟩ := h
  cases rx
  cases ry
  obtain ⟨mA, J, _⟩ := ins_get I.hok ha
  obtain ⟨mB, J', _⟩ := ins_get I.hok hb'
  obtain ⟨od, J, _⟩ := J.look
  obtain ⟨od', J', _⟩ := J'.look
  obtain ⟨m, hF⟩ := I.fr
  refine PySem.W.binop_K hF I.ok.mod.kin J J'.type hc hs hf ?_
  have r2 : Vals [V.ref a, V.ref b] [Value.ref a, Value.ref b] := .cons rfl (.cons rfl .nil)
  refine thn (run_fn (us := [.ref a, .ref b]) (vs := [.ref a, .ref b]) (ds := []) (dvs := []) F hr hb .nil hx I r2 hsp) fun w s' q => ?_
  obtain ⟨z, H', I', rz, q'⟩ := q
  exact cmpBack_of (notimpl_of rz) ⟨z, H', I', rz, q'⟩
/-- len(o) by its own method -/
def rOwnLen (C : Addr) (sp : Sp) (E : XK) : List V → Hp → VK → Prop := fun vs H Q => ∃ a dx fs, vs = [.ref a] ∧ H a = some (.ins C dx fs) ∧ sp [.ref a] H (fun v H' => ∃ n : Int, v = .int n ∧ 0 ≤ n ∧ n < 2 ^ 63 ∧ Q (.int n) H') E
end
end S1

namespace S1
open PySem PySem.Spec PyProof.Rows L2 StX
/-! ### sorted over whatever may be collected -/
section
variable {prog : Program} {w : World} {A : Around} {E : Value → Shared → Prop} {s : Shared}
theorem sorted_from {u : Value} {PV : List Value → Prop} {ltv : Value → Value → Bool} {Q : Value → Shared → Prop} (O : SrtO.Swo ltv) (hz : ∀ vs, PV vs → vs.length ≤ sizeLine)
    (hcol : ∀ Q' : List Value → Shared → Prop, (∀ (vs : List Value) (h' : Heap) (tk : Nat), PV vs → (∀ b o, s.heap.get? b = some o → h'.get? b = some o) → Q' vs { s with heap := h', toks := tk }) → wpAny (model prog w) A.in1 (collect u) Q' E s)
    (hS : ∀ vs : List Value, PV vs → 2 ≤ vs.length → ∀ (h₁ : Heap) (a : Addr) (tk : Nat), h₁.get? a = some (seqObj "list" vs.toArray 0) → (∀ b o, s.heap.get? b = some o → b ≠ a ∧ h₁.get? b = some o) → SrtO.SortableO prog w A.in1.in1 { s with heap := h₁, toks := tk } a vs ltv)
    (h : ∀ (vs : List Value) (h1 h' : Heap) (d : Addr) (tk : Nat) (out : List Value), PV vs → SrtO.Srtd ltv out → SrtO.Stb ltv out vs → (∀ b o, s.heap.get? b = some o → h1.get? b = some o) → (∀ b o, h1.get? b = some o → h'.get? b = some o) → h1.objs.size ≤ d → (∃ n, h'.get? d = some (seqObj "list" out.toArray n)) → Q (.ref d) { s with heap := h', toks := tk }) :
    wpAny (model prog w) A (call (.builtin "sorted") [u]) Q E s := by
  refine Calls.call_function_entry kind_sorted plain_sorted entry_sorted (args_sorted1 _) ?_
  unfold Builtin.«sorted»
  refine wpAny_bind (m := checkCount "sorted" 1 1 _) (wpAny_pure ?_)
  refine wpAny_bind (hcol _ fun vs h' tk pv hk => ?_)
  refine wpAny_bind (wpAny_newList ?_ (hz vs pv))
  have hoL : (h'.push (seqObj "list" vs.toArray 0)).get? h'.objs.size = some (seqObj "list" vs.toArray 0) := Heap.get?_push_size _ rfl
  have keep : ∀ b o, s.heap.get? b = some o → b ≠ h'.objs.size ∧ (h'.push (seqObj "list" vs.toArray 0)).get? b = some o := fun b o q =>
    ⟨Nat.ne_of_lt (Heap.lt_size (hk b o q)), Heap.get?_push_of_some _ (hk b o q)⟩
  show wpAny _ _ _ _ _ { s with heap := h'.push (seqObj "list" vs.toArray 0), toks := tk }
  refine wpAny_bind (wpAny_holding (wpAny_call_entry slot_list_sort ⟨_, hoL, rfl⟩ entry_list_sort (SrtO.list_sort_ord (s := { s with heap := h'.push (seqObj "list" vs.toArray 0), toks := tk }) O hoL (hz vs pv) (fun h2 => hS vs pv h2 _ _ tk hoL keep) fun out hs hb => ⟨_, rfl, ?_⟩) (args_list_sort _)))
  refine wpAny_pure ⟨_, rfl, h vs _ _ _ _ out pv hs hb hk (fun b o e => ?_) (Nat.le_refl _) ?_⟩
  · have hb : b < h'.objs.size := Heap.lt_size e
    rw [PyProof.Rows.sortedHeap_old (Nat.ne_of_lt hb) (by rw [size_push']; exact Nat.lt_succ_of_lt hb)]
    exact Heap.get?_push_of_some _ e
  · exact PyProof.Rows.sortedHeap_at (vs := vs) (out := out.toArray) hoL
end
section
variable {X : Cx}
/-- sorted of a list or a tuple of pairs of ints, any number -/
def rSortedPs (K : PySem.W.Frag) : List V → Hp → VK → Prop := fun vs H Q => ∃ (a : Addr) (xs : List V) (k : V → Int × Int), vs = [V.ref a] ∧ (SqL K H a xs ∨ SqT K H a xs) ∧ (∀ x ∈ xs, ∃ t, x = V.ref t ∧ H t = some (.tup [.int (k x).1, .int (k x).2])) ∧
  ∀ ys p, SrtO.Srtd (ltP k) ys → SrtO.Stb (ltP k) ys xs → H p = none → Q (.ref p) (upd H p (.lst ys))
theorem cr_sortedPs : CallR X (.builtin "sorted") (rSortedPs X.K) := by
  intro pins s σ H vs us Q I r h
  obtain ⟨a, xs, k, rfl, hs, hx, q⟩ := h
  obtain ⟨u, rfl, ru⟩ := vals1 r
  obtain rfl : u = Value.ref a := ru
  obtain ⟨its, rv, hz, o, T, n, hT, ho, hc, hd⟩ : ∃ (its : List Value) (rv : Vals xs its) (hz : xs.length ≤ sizeLine) (o : Obj) (T : String) (n : Nat), (T = "list" ∨ T = "tuple") ∧ s.heap.get? a = some o ∧ o.cls = .type T ∧ o.data = .seq its.toArray n := by
    rcases hs with hs | hs
    · obtain ⟨its, rv, hl, hz⟩ := I.list hs
      obtain ⟨o, ho, hc, n, hd⟩ := hl.isList
      exact ⟨its, rv, hz, o, "list", _, .inl rfl, ho, hc, hd⟩
    · obtain ⟨its, rv, ⟨o, ho, hc, n, hd⟩, hz⟩ := I.tuple hs
      exact ⟨its, rv, hz, o, "tuple", n, .inr rfl, ho, hc, hd⟩
  obtain ⟨e1, e2⟩ := refs_back rv fun x m => by
    obtain ⟨t, e, _⟩ := hx x m
    exact ⟨t, e⟩
  have hp : ∀ v ∈ its, Srt.IsPair s.heap v (k (backV v)).1 (k (backV v)).2 := fun v hv => by
    obtain ⟨t, rfl⟩ := e2 v hv
    have hm : V.ref t ∈ xs := by rw [e1]; exact List.mem_map.mpr ⟨_, hv, rfl⟩
    obtain ⟨t', e, ht⟩ := hx _ hm
    cases e
    obtain ⟨_, its2, r2, o, ho, hc, n, hd⟩ := I.hok _ _ ht
    obtain ⟨u1, u2, rfl, ri, rj⟩ := vals2 r2
    obtain ⟨t1, rfl⟩ := ri
    obtain ⟨t2, rfl⟩ := rj
    exact ⟨t, o, t1, t2, n, rfl, ho, hc, hd⟩
  refine sorted_from (PV := fun vs => vs = its) (SrtO.swo_lex fun u => k (backV u)) (fun vs e => by rw [e, ← rv.length]; exact hz) (fun Q' hq => ?_) (fun vs ev h2 h₁ a' tk ha kk => ?_) fun vs h1 h' d tk out ev s1 s2 k1 k2 hd' hn => ?_
  · have z := wpAny_collect_seq (prog := X.prog) (w := X.w) (A := X.A.in1) (E := X.xe) (Q := Q') a hT ho hc hd (fun h' hk => by
      have e : its.toArray.toList = its := by simp
      rw [e]
      exact hq its h' s.toks rfl hk) (by rw [List.size_toArray, ← rv.length]; exact hz)
    exact z
  · subst ev
    refine SrtO.pairs_sortableO (s := { s with heap := h₁, toks := tk }) (by omega) (fun v hm => (hp v hm).keeps fun b o e _ => (kk b o e).2) fun o e => ?_
    have e' : some o = some (seqObj "list" vs.toArray 0) := e.symm.trans ha
    cases e'
    intro c
    exact absurd (Value.type.inj c) (by decide)
  · subst ev
    have h3 : ∀ u ∈ out, ∃ a, u = Value.ref a := fun u hu => e2 u (s2.perm.mem_iff.mp hu)
    obtain ⟨n', hn⟩ := hn
    have hb : SrtO.Stb (ltP k) (out.map backV) xs := by
      rw [e1]
      exact SrtO.Stb.map (ltP_swo k) backV s2
    have I1 : Inv X pins σ H { s with heap := h1, toks := tk } := I.kept k1
    refine ⟨.ref d, upd H d (.lst (out.map backV)), I1.laid (t' := tk) k2 hd' ⟨?_, out, n', vals_back h3, hn⟩, rfl, q _ d (SrtO.srtd_map s1) hb (I1.hok.fresh hd')⟩
    rw [hb.len]
    exact hz
/-- sorted(d), d a dict whose keys are ints, any number -/
def rSortedDI : List V → Hp → VK → Prop := fun xs H Q => ∃ (a : Addr) (kvs : List (Key × V)) (ks : List Int), xs = [.ref a] ∧ Rd H a (.dK kvs) ∧ kvs.map (·.1) = ks.map Sum.inl ∧
    ∀ (ys : List Int) (p : Addr), ys.Perm ks → ys.Pairwise (· ≤ ·) → H p = none → Q (.ref p) (upd H p (.lst (ys.map V.int)))
theorem cr_sortedDI (hcalm : X.calm = true) : CallR X (.builtin "sorted") rSortedDI := by
  intro pins s σ H xs us Q I r q
  obtain ⟨a, kvs, ks, ex, hd, hks, q⟩ := q
  subst ex
  obtain ⟨u, eu, rx⟩ := vals1 r
  subst eu
  cases rx
  obtain ⟨z, lo, vs, rel, dd⟩ := dk_rd I.hok hd
  obtain ⟨ep, hat⟩ := dd.dictAt
  have hkeys : vs.map (·.1) = ks.map Sum.inl := rel.keys.symm.trans hks
  have hl : vs.length = ks.length := by
    have e := congrArg List.length hkeys
    rw [List.length_map, List.length_map] at e
    exact e
  have h16 : vs.length ≤ sizeLine := by rw [← rel.length]; exact z
  refine sorted_from (PV := fun acc => IntsAre acc ks) SrtO.swo_int (fun acc hS => by rw [hS.length, ← hl]; exact h16) (fun Q' hq => ?_) (fun acc hS h2 h₁ a' tk ha kk => ?_) fun acc h1 h' d tk out hS s1 s2 k1 k2 hd' hn => ?_
  · refine PySem.W.kdu_collect (A := X.A.in1) (PySem.W.kdl_dict (knd := mixKind X.prog X.w) (kvs := vs) (ep := ep) lo) (I.ok.hd hcalm) hat h16 fun h' tk acc hk hacc => ?_
    have hal : acc.toList.length = ks.length := by rw [Array.length_toList, hacc.1, hl]
    refine hq acc.toList h' tk (ints_each hal fun j v e => ?_) hk
    obtain ⟨k, x, e1, e2⟩ := hacc.2 j v (by rw [← Array.getElem?_toList]; exact e)
    have e3 : (vs.map (·.1))[j]? = some k := by rw [List.getElem?_map, e1]; rfl
    rw [hkeys, List.getElem?_map] at e3
    cases e4 : ks[j]? with
    | none => rw [e4] at e3; cases e3
    | some y =>
      rw [e4] at e3
      have e5 : Sum.inl y = k := Option.some.inj e3
      subst e5
      rcases keyIs_shape (show keyIs (Sum.inl y) v = true from e2) with ⟨i, t, ek, ev⟩ | ⟨z, t, ek, ev⟩
      · cases ek
        exact ⟨y, t, rfl, ev⟩
      · cases ek
  · exact SrtO.ints_sortable hS h2
  · obtain ⟨j1, j2, j3⟩ := SrtO.ints_out hS s1 s2
    obtain ⟨n', hn⟩ := hn
    have I1 : Inv X pins σ H { s with heap := h1, toks := tk } := I.kept k1
    refine ⟨.ref d, upd H d (.lst ((out.map SrtO.iv).map V.int)), I1.laid (t' := tk) k2 hd' ⟨?_, out, n', vals_of_ints j1, hn⟩, rfl, q _ d j2 j3 (I1.hok.fresh hd')⟩
    rw [List.length_map, j2.length_eq, ← hl]
    exact h16
end
end S1

namespace S1
open PySem PySem.Spec PyProof.Rows L2 StX
/-! ### x == y by an own __eq__, whatever y is -/
section
variable {X : Cx} {CX : CXT} {k : Nat} {f C : Addr} {fd : FuncData} {ps : List Str} {sp : Sp} {E : XK}
def rOwnEq (K : PySem.W.Frag) (C : Addr) (sp : Sp) (E : XK) : R2 := fun x y H Q => ∃ a dx fs tb, x = .ref a ∧ H a = some (.ins C dx fs) ∧ TyX K H y tb ∧ PySem.W.notFirst K C tb = true ∧ sp [.ref a, y] H Q E
theorem op_ownEq (F : FnOk X.prog X.w X.K X.mg X.base CX k f fd ps sp) (hr : Room k X.A) (hb : Binds X.K fd ps []) (hx : Passes CX X E)
    (hs : PySem.W.findIn X.K (.ref C) "__eq__" = some (some (.ref f))) (hf : PySem.W.isFn X.K (.ref f) = true) : OpR X (compareOp .Eq) (rOwnEq X.K C sp E) := by
  intro pins s σ H x y v u Q I rx ry h
  obtain ⟨a, dx, fs, tb, rfl, ha, ty, hn, hsp⟩ := h
  cases rx
  obtain ⟨mA, J, _⟩ := ins_get I.hok ha
  obtain ⟨od, J, _⟩ := J.look
  obtain ⟨m, hF⟩ := I.fr
  obtain ⟨P, Z, p, _⟩ := kit_of I ry ty
  show wpAny (model X.prog X.w) X.A (richCompare .Eq (.ref a) u) _ _ _
  refine PySem.W.cmp_K (op := .Eq) (tb := tb) hr.units0 hF I.ok.mod.kin J (Z.ty _ _ I.kIn p) hn hs hf ?_
  refine thn (run_fn (us := [.ref a, u]) (vs := [.ref a, y]) (ds := []) (dvs := []) F hr hb .nil hx I (.cons rfl (.cons ry .nil)) hsp) fun w s' q => ?_
  obtain ⟨z, H', I', rz, q'⟩ := q
  exact cmpBack_of (notimpl_of rz) ⟨z, H', I', rz, q'⟩
/-- len(o) by its own __len__ -/
theorem call_ownLen (F : FnOk X.prog X.w X.K X.mg X.base CX k f fd ps sp) (hr : Room (k + 1) X.A) (hb : Binds X.K fd ps []) (hx : ∀ (pins : List (Addr × Obj)) (σ : L2.St) (H : Hp) (s : Shared) (e : Value) (s' : Shared), Inv X pins σ H s → CX X.stack H s E e s' → False)
    (hs : PySem.W.findIn X.K (.ref C) "__len__" = some (some (.ref f))) (hf : PySem.W.isFn X.K (.ref f) = true) : CallR X (.builtin "len") (rOwnLen C sp E) := by
  intro pins s σ H vs us Q I r h
  obtain ⟨a, dx, fs, rfl, ha, hsp⟩ := h
  obtain ⟨u, rfl, ru⟩ := vals1 r
  cases ru
  obtain ⟨mA, J, _⟩ := ins_get I.hok ha
  obtain ⟨od, J, _⟩ := J.look
  obtain ⟨m, hF⟩ := I.fr
  refine PySem.W.len_K hF I.ok.mod.kin J hs hf ?_
  have hl := F.len _ _ _ _ hsp
  have e0 : Env0 X.prog X.w X.K X.mg X.base X.A.in1 X.stack s H := I.env0.in1
  refine wpAny_call (codeAny_mono (F.run X.A.in1 X.stack s H ⟨[.ref a], []⟩ [.ref a] [.ref a] _ E hr.in1 e0 (by
    have := hb s [.ref a] I.kIn (by simpa using hl)
    simpa using this) (.cons rfl .nil) hsp) fun r s' hq => ?_)
  cases r with
  | error e => exact (hx pins σ H s e s' I hq).elim
  | ok fl =>
    cases fl with
    | ret w =>
      obtain ⟨z, H', I', rz, n, ez, h0, h1, q'⟩ := I.after hq
      subst ez
      obtain ⟨t, rfl⟩ := rz
      exact ⟨⟨h0, h1⟩, .int n, H', I'.tok _, ⟨_, rfl⟩, q'⟩
    | next => exact False.elim hq
    | brk => exact False.elim hq
    | cont => exact False.elim hq
end

/-! ### len(range(n)) -/
section
variable {X : Cx}
theorem cr_range1 : CallR X (.type "range") (fun vs H Q => ∃ j, vs = [V.int j] ∧ ∀ p, H p = none → Q (.ref p) (upd H p (.rng 0 j))) := by
  intro pins s σ H vs us Q I r h
  obtain ⟨j, rfl, q⟩ := h
  obtain ⟨u1, rfl, ri⟩ := vals1 r
  obtain ⟨t, rfl⟩ := ri
  refine call_range_1 ⟨.ref s.heap.objs.size, upd H s.heap.objs.size (.rng 0 j), I.laid (t' := s.toks + 1 + 1) (fun b o e => Heap.get?_push_of_some _ e) (Nat.le_refl _) ?_, rfl, q _ (I.hok.fresh (Nat.le_refl _))⟩
  exact ⟨_, _, _, Heap.get?_push_size _ rfl⟩
def rLenRg : List V → Hp → VK → Prop := fun vs H Q => ∃ p j, vs = [V.ref p] ∧ H p = some (.rng 0 j) ∧ 0 ≤ j ∧ j < 2 ^ 62 ∧ Q (.int j) H
theorem cr_lenRg : CallR X (.builtin "len") rLenRg := by
  intro pins s σ H vs us Q I r h
  obtain ⟨p, j, rfl, hp, h0, h1, q⟩ := h
  obtain ⟨u1, rfl, ri⟩ := vals1 r
  cases ri
  obtain ⟨t, u, v, e⟩ := I.hok p _ hp
  have hn : Builtin.Range.rangeSize 0 j 1 = j := by rw [rangeSize_one]; split <;> omega
  refine call_len_range (n := j.toNat) (a := 0) (b := j) (c := 1) (t := t) (u := u) (v := v) e (by omega) (by omega) ?_
  have e2 : ((j.toNat : Nat) : Int) = j := by omega
  rw [e2]
  exact ⟨.int j, H, I.tok _, ⟨_, rfl⟩, q⟩

/-! ### dicts that are sets of ints -/
def setK (ks : List Int) : List (Key × V) := ks.map fun k => (Sum.inl k, V.bl true)
theorem setK_val (ks : List Int) (k : Int) : valV (setK ks) (Sum.inl k : Key) = if k ∈ ks then some (V.bl true) else none := by
  unfold setK valV
  induction ks with
  | nil => simp
  | cons a r ih =>
    rw [List.map_cons, List.find?_cons]
    by_cases e : a = k
    · subst e; simp
    · have h1 : decide ((Sum.inl a : Key) = Sum.inl k) = false := decide_eq_false fun q => e (Sum.inl.inj q)
      simp only [h1]
      rw [ih]
      have h2 : (k ∈ a :: r) ↔ k ∈ r := by simp [Ne.symm e]
      simp only [h2]
def rEqSet (neg : Bool) : R2 := fun x y H Q => ∃ a b ks ls, x = .ref a ∧ y = .ref b ∧ H a = some (.dK (setK ks)) ∧ H b = some (.dK (setK ls)) ∧ Q (.bl (neg ^^ (ks.length == ls.length && ks.all fun k => decide (k ∈ ls)))) H
theorem hits_set {A : Around} {s : Shared} {ls : List Int} {vb : List (Key × Value)} (rb : KV (setK ls) vb) : ∀ {ks : List Int} {va : List (Key × Value)}, KV (setK ks) va → ∃ r, PySem.W.KeqHits A s vb va r ∧ r = ks.all fun k => decide (k ∈ ls)
  | [], va, ra => by
    unfold KV setK at ra
    rw [List.map_nil] at ra
    cases ra
    exact ⟨true, .nil, rfl⟩
  | k :: ks, va, ra => by
    unfold KV setK at ra
    rw [List.map_cons] at ra
    cases ra with
    | @cons p q ps qs h t =>
      obtain ⟨h1, h2⟩ := h
      obtain ⟨k', v⟩ := q
      have h1' : (Sum.inl k : Key) = k' := h1
      subst h1'
      have hv : v = Value.bool true := h2
      subst hv
      have rr := rb.val (Sum.inl k)
      rw [setK_val] at rr
      obtain ⟨r, hr, er⟩ := hits_set rb (ks := ks) (va := qs) t
      by_cases hm : k ∈ ls
      · rw [if_pos hm] at rr
        obtain ⟨y, hy, ry⟩ := rr.some_of
        have hy' : y = Value.bool true := ry
        subst hy'
        refine ⟨true && r, .hit hy (SeqAt.EqAt.same _) hr, ?_⟩
        rw [er, List.all_cons, decide_eq_true hm]
      · rw [if_neg hm] at rr
        refine ⟨false, .miss rr.none_of, ?_⟩
        rw [List.all_cons, decide_eq_false hm]
        rfl
theorem op_eqSet (hu : X.A.units < cLine) : OpR X (compareOp .Eq) (rEqSet false) := by
  intro pins s σ H x y v u Q I rx ry h
  obtain ⟨a, b, ks, ls, rfl, rfl, ea, eb, q⟩ := h
  obtain rfl : v = Value.ref a := rx
  obtain rfl : u = Value.ref b := ry
  obtain ⟨_, ya, va, ra, da⟩ := (show ObjOk X.prog X.w H s.heap a (.dK (setK ks)) from I.hok a _ ea)
  obtain ⟨_, yb, vb, rb, db⟩ := (show ObjOk X.prog X.w H s.heap b (.dK (setK ls)) from I.hok b _ eb)
  obtain ⟨r, hr, er⟩ := hits_set (A := X.A.in1) (s := s) rb ra
  have l1 : va.length = ks.length := by rw [← ra.length]; exact List.length_map _
  have l2 : vb.length = ls.length := by rw [← rb.length]; exact List.length_map _
  refine PySem.W.keq_eq (knd := mixKind X.prog X.w) (r := r) ya yb da db hu (fun _ => hr) (fin_bl I q ?_)
  rw [l1, l2, er, Bool.false_xor]
/-! ### t[::-1], t a tuple -/
def tRevT (K : PySem.W.Frag) (te : TE) : TE := fun σ H Q => te σ H fun x H1 => ∃ a xs, x = .ref a ∧ SqT K H1 a xs ∧ ∀ p, H1 p = none → Q (.ref p) (upd H1 p (.tup xs.reverse))
end
end S1

namespace S1
open PySem PySem.Spec PyProof.Rows L2 StX
theorem rev_adjust (n : Nat) : Builtin.Slice.sliceAdjust none none (-1) (n : Int) = ((n : Int) - 1, -1) := by
  unfold Builtin.Slice.sliceAdjust
  have h1 : ((-1 : Int) < 0) := by omega
  simp only [h1, if_true]
theorem rev_places (n : Nat) : Builtin.Slice.slicePlaces ((n : Int) - 1) (-1) (-1) = n := by
  unfold Builtin.Slice.slicePlaces
  have h1 : ¬ ((-1 : Int) > 0) := by omega
  simp only [h1, if_false]
  have e : (-(-1) : Int) = 1 := by omega
  rw [e, Int.ediv_one]
  split <;> omega
theorem fm_congr {α β : Type} {f g : α → Option β} : ∀ {l : List α}, (∀ x ∈ l, f x = g x) → l.filterMap f = l.filterMap g
  | [], _ => rfl
  | a :: r, h => by
    rw [List.filterMap_cons, List.filterMap_cons, h a List.mem_cons_self, fm_congr fun x m => h x (List.mem_cons_of_mem _ m)]
theorem rev_pick (xs : List Value) : (List.range xs.length).filterMap (fun (k : Nat) => xs.toArray[((xs.length : Int) - 1 + (k : Int) * (-1)).toNat]?) = xs.reverse := by
  have h1 : (List.range xs.length).filterMap (fun (k : Nat) => xs.toArray[((xs.length : Int) - 1 + (k : Int) * (-1)).toNat]?) = (List.range xs.length).filterMap (fun k => xs.reverse[k]?) := by
    refine fm_congr fun k hk => ?_
    have hk := List.mem_range.mp hk
    rw [List.getElem?_reverse hk, List.getElem?_toArray]
    congr 1
    omega
  rw [h1]
  have h2 := PySem.W.krv_all xs.reverse.toArray
  simpa using h2
section
variable {prog : Program} {w : World} {A : Around} {E : Value → Shared → Prop} {s : Shared}
theorem getItem_tuple_rev {t sl : Addr} {its : List Value} {vl vu vs : Value} {Q : Value → Shared → Prop} (ht : IsTup s.heap t its.toArray) (hs : s.heap.IsSliceOf sl vl vu vs) (pl : IsPart vl none) (pu : IsPart vu none) (ps : IsPart vs (some (-1)))
    (h : Q (.ref s.heap.objs.size) { s with heap := s.heap.push { cls := .type "tuple", data := .seq its.reverse.toArray } })
    (hsz : its.length ≤ sizeLine) : wpAny (model prog w) A (getItem (.ref t) (.ref sl)) Q E s := by
  have htake : sizeOk (.seq its.reverse.toArray) := by
    show its.reverse.toArray.size ≤ sizeLine
    rw [List.size_toArray, List.length_reverse]
    exact hsz
  obtain ⟨os, hos, hcs, hds⟩ := id hs
  have hTs : s.TypeIs (.ref sl) "slice" := ⟨os, hos, hcs⟩
  unfold getItem
  try with_reducible refine wpAny_holding ?_
  first | refine wpAny_bind (wpAny_pure ?_) | skip
  refine wpAny_bind (wpAny_sequenceKey ht.typeIs (by decide) ?_)
  refine wpAny_bind (wpAny_callSpecial?_slot (name := Str.ofString "__getitem__") ht.typeIs PyProof.Rows.slot_tuple_getitem
    (wpAny_call_entry PyProof.Rows.slot_tuple_getitem ht.typeIs entry_tuple_getitem ?_ (args_tuple_getitem _ _)))
  show wpAny _ _ (Builtin.Tuple.tupleItemsOf (.ref t) >>= _) _ _ s
  refine wpAny_bind (tupleItemsOf_ ht ?_)
  refine wpAny_bind (wpAny_typeOf hTs ?_)
  rw [if_pos (by decide)]
  refine wpAny_bind ?_
  unfold Builtin.Slice.sliceApplied Builtin.Slice.sliceFields
  refine wpAny_bind (wpAny_bind (wpAny_field hos hds (x := vl) rfl (wpAny_bind (wpAny_field hos hds (x := vu) rfl (wpAny_bind (wpAny_field hos hds (x := vs) rfl (wpAny_pure ?_)))))))
  refine wpAny_bind (HT.slicePart_ ps ?_)
  show wpAny _ _ (if ((-1 : Int) == 0) = true then _ else _) _ _ s
  rw [if_neg (by decide)]
  refine wpAny_bind (HT.slicePart_ pl (wpAny_bind (HT.slicePart_ pu (wpAny_bind (wpAny_pure ?_)))))
  show wpAny _ _ (match Builtin.Slice.sliceAdjust none none (-1) ((its.toArray.size : Nat) : Int) with | (lo, hi) => pure (lo, (-1 : Int), Builtin.Slice.slicePlaces lo hi (-1))) _ _ s
  rw [List.size_toArray, rev_adjust]
  show wpAny _ _ (pure (((its.length : Int) - 1), (-1 : Int), Builtin.Slice.slicePlaces ((its.length : Int) - 1) (-1) (-1))) _ _ s
  rw [rev_places]
  refine wpAny_pure ?_
  show wpAny _ _ (if ((((its.length : Int) - 1) == 0 && (-1 : Int) == 1 && its.length == its.toArray.size) = true) then _ else _) _ _ s
  rw [if_neg (by simp)]
  show wpAny _ _ ((Builtin.Tuple.tupleExact ((List.range its.length).filterMap fun (k : Nat) => its.toArray[((its.length : Int) - 1 + (k : Int) * (-1)).toNat]?).toArray) >>= fun v => ret v) _ _ s
  rw [rev_pick]
  first
    | exact wpAny_bind (m := Builtin.Tuple.tupleExact _) (wpAny_newObj_type (wpAny_pure ⟨_, rfl, wpAny_pure h⟩) htake)
    | exact wpAny_bind (m := Builtin.Tuple.tupleExact _) (wpAny_newObj_type (wpAny_bind (wpAny_pure (wpAny_pure ⟨_, rfl, wpAny_pure h⟩))) htake)
    | exact wpAny_bind (wpAny_bind (m := Builtin.Tuple.tupleExact _) (wpAny_newObj_type (wpAny_pure (wpAny_pure ⟨_, rfl, wpAny_pure h⟩)) htake))
    | exact wpAny_bind (wpAny_bind (m := Builtin.Tuple.tupleExact _) (wpAny_newObj_type (wpAny_pure ⟨_, rfl, wpAny_pure h⟩) htake))
end
section
variable {X : Cx}
theorem pe_revT {e : Expr} {te : TE} {k : Nat} {p1 p2 p3 pos : Pos} (he : PE X e te) : PE X (.Subscript e (.Slice none none (some (.UnaryOp .USub (.Constant (.int 1) k p1) p2)) p3) pos) (tRevT X.K te) := by
  refine ⟨fun pins s σ H Q I h => ?_⟩
  refine Subscript_ (thn (he.run pins s σ H _ I h) fun v s1 ⟨x, H1, I1, r1, q1⟩ => ?_)
  obtain ⟨a, xs, ex, hx, q⟩ := q1
  subst ex
  cases r1
  have hst : PO X (some (.UnaryOp .USub (.Constant (.int 1) k p1) p2)) (tPart (tUn (rU fun i => .int (-i)) (tC (.int 1)))) := po_some (pe_un un_neg pe_int)
  refine wpAny_Slice (thn (po_none.run pins s1 σ H1 (fun o H2 => o = none ∧ H2 = H1) I1 ⟨rfl, rfl⟩) fun vl s2 ⟨l, H2, I2, pl, el, e2⟩ => ?_)
  subst el e2
  refine thn (po_none.run pins s2 σ H2 (fun o H3 => o = none ∧ H3 = H2) I2 ⟨rfl, rfl⟩) fun vu s3 ⟨u, H3, I3, pu, eu, e3⟩ => ?_
  subst eu e3
  refine thn (hst.run pins s3 σ H3 (fun o H4 => o = some (-1) ∧ H4 = H3) I3 ⟨1, rfl, -1, rfl, rfl, rfl⟩) fun vs s4 ⟨o, H4, I4, ps, eo, e4⟩ => ?_
  subst eo e4
  have I5 : Inv X pins σ H4 { s4 with heap := s4.heap.push { cls := .type "slice", data := .fields #[vl, vu, vs] } } := I4.kept (t' := s4.toks) fun b ob q => Heap.get?_push_of_some _ q
  obtain ⟨its, r, ht, hz⟩ := I5.tuple hx
  have hlen := r.length
  show wpAny (model X.prog X.w) X.A (subscriptTail e (.Slice none none (some (.UnaryOp .USub (.Constant (.int 1) k p1) p2)) p3) (.ref a) (.ref s4.heap.objs.size)) (EP X pins σ Q) X.xe { s4 with heap := s4.heap.push { cls := .type "slice", data := .fields #[vl, vu, vs] } }
  refine tail_any (ops := [.ref a, .ref s4.heap.objs.size]) ht.typeIs (PyProof.Rows.slot_tuple_getitem.lookup) ?_ (by with_unfolding_all rfl)
  refine getItem_tuple_rev ht (Heap.IsSliceOf.new _ vl vu vs) pl pu ps ?_ (by omega)
  refine ⟨.ref _, _, I5.laid (t' := s4.toks) (o := .tup xs.reverse) (fun b ob q => Heap.get?_push_of_some _ q) (Nat.le_refl _) ?_, rfl, q _ (I5.hok.fresh (Nat.le_refl _))⟩
  exact ⟨by rw [List.length_reverse]; exact hz, _, r.reverse, IsTup.new _ _⟩
end
end S1

/-! The mathematics of spans: rows of pairs, what they cover, their one canonical form. Plain Lean. -/
namespace M1
abbrev P2 := Int × Int
def covers (ps : List P2) (x : Int) : Prop := ∃ p ∈ ps, p.1 ≤ x ∧ x < p.2
def mem (ps : List P2) (x : Int) : Bool := ps.any fun p => decide (p.1 ≤ x) && decide (x < p.2)
theorem mem_iff {ps : List P2} {x : Int} : mem ps x = true ↔ covers ps x := by
  unfold mem covers
  simp [List.any_eq_true]
theorem covers_nil {x : Int} : ¬ covers [] x := by rintro ⟨p, h, _⟩; cases h
theorem covers_cons {p : P2} {ps : List P2} {x : Int} : covers (p :: ps) x ↔ (p.1 ≤ x ∧ x < p.2) ∨ covers ps x := by
  unfold covers; simp
theorem covers_append {ps qs : List P2} {x : Int} : covers (ps ++ qs) x ↔ covers ps x ∨ covers qs x := by
  unfold covers
  constructor
  · rintro ⟨p, h, q⟩
    rcases List.mem_append.mp h with h | h
    · exact .inl ⟨p, h, q⟩
    · exact .inr ⟨p, h, q⟩
  · rintro (⟨p, h, q⟩ | ⟨p, h, q⟩)
    · exact ⟨p, List.mem_append_left _ h, q⟩
    · exact ⟨p, List.mem_append_right _ h, q⟩
theorem covers_perm {ps qs : List P2} (h : ps.Perm qs) {x : Int} : covers ps x ↔ covers qs x := by
  unfold covers
  constructor
  · rintro ⟨p, m, q⟩; exact ⟨p, h.mem_iff.mp m, q⟩
  · rintro ⟨p, m, q⟩; exact ⟨p, h.mem_iff.mpr m, q⟩
/-- ascending, apart from one another, above lo -/
def CanonFrom : Int → List P2 → Prop
  | _, [] => True
  | lo, p :: r => lo < p.1 ∧ p.1 < p.2 ∧ CanonFrom p.2 r
abbrev Canon (ps : List P2) : Prop := CanonFrom (-1) ps
/-- pairs that may be spans -/
def Ok (p : P2) : Prop := 0 ≤ p.1 ∧ p.1 < p.2 ∧ p.2 ≤ 1000000
def Oks (ps : List P2) : Prop := ∀ p ∈ ps, Ok p
theorem CanonFrom.low {lo : Int} : ∀ {ps : List P2}, CanonFrom lo ps → ∀ {x : Int}, covers ps x → lo < x
  | [], _, x, h => absurd h covers_nil
  | p :: r, ⟨h1, h2, h3⟩, x, h => by
    rcases covers_cons.mp h with ⟨a, b⟩ | h
    · omega
    · have := h3.low h
      omega
theorem canon_unique : ∀ {ps qs : List P2} {lo lo' : Int}, CanonFrom lo ps → CanonFrom lo' qs → (∀ x, covers ps x ↔ covers qs x) → ps = qs
  | [], [], _, _, _, _, _ => rfl
  | [], q :: t, _, _, _, ⟨_, h2, _⟩, h => absurd ((h q.1).mpr (covers_cons.mpr (.inl ⟨Int.le_refl _, h2⟩))) covers_nil
  | p :: r, [], _, _, ⟨_, h2, _⟩, _, h => absurd ((h p.1).mp (covers_cons.mpr (.inl ⟨Int.le_refl _, h2⟩))) covers_nil
  | (a, b) :: r, (c, d) :: t, _, _, ⟨h1, h2, h3⟩, ⟨k1, k2, k3⟩, h => by
    dsimp only at h1 h2 h3 k1 k2 k3
    have low1 : ∀ {x : Int}, covers ((a, b) :: r) x → a ≤ x := fun {x} hx => by
      rcases covers_cons.mp hx with ⟨q, _⟩ | q
      · exact q
      · have := h3.low q
        omega
    have low2 : ∀ {x : Int}, covers ((c, d) :: t) x → c ≤ x := fun {x} hx => by
      rcases covers_cons.mp hx with ⟨q, _⟩ | q
      · exact q
      · have := k3.low q
        omega
    have e1 : a = c := by
      have x1 := low2 ((h a).mp (covers_cons.mpr (.inl ⟨Int.le_refl _, h2⟩)))
      have x2 := low1 ((h c).mpr (covers_cons.mpr (.inl ⟨Int.le_refl _, k2⟩)))
      omega
    subst e1
    have e2 : b = d := by
      have x1 : ¬ covers ((a, b) :: r) b := fun q => by
        rcases covers_cons.mp q with ⟨_, q⟩ | q
        · exact absurd q (Int.lt_irrefl _)
        · exact absurd (h3.low q) (Int.lt_irrefl _)
      have x2 : ¬ covers ((a, d) :: t) d := fun q => by
        rcases covers_cons.mp q with ⟨_, q⟩ | q
        · exact absurd q (Int.lt_irrefl _)
        · exact absurd (k3.low q) (Int.lt_irrefl _)
      rcases Int.lt_trichotomy b d with q | q | q
      · exact absurd ((h b).mpr (covers_cons.mpr (.inl ⟨Int.le_of_lt h2, q⟩))) x1
      · exact q
      · exact absurd ((h d).mp (covers_cons.mpr (.inl ⟨Int.le_of_lt k2, q⟩))) x2
    subst e2
    rw [canon_unique h3 k3 fun x => ?_]
    constructor
    · intro q
      have l := h3.low q
      rcases covers_cons.mp ((h x).mp (covers_cons.mpr (.inr q))) with ⟨_, z⟩ | z
      · dsimp only at z; omega
      · exact z
    · intro q
      have l := k3.low q
      rcases covers_cons.mp ((h x).mpr (covers_cons.mpr (.inr q))) with ⟨_, z⟩ | z
      · dsimp only at z; omega
      · exact z

/-! ### united -/
/-- what has been found, the row at hand -/
structure UnS where
  found : List P2
  first : Int
  last : Int
def put (f : List P2) (a b : Int) : List P2 := if a < b then f ++ [(a, b)] else f
def unStep (s : UnS) (p : P2) : UnS := if s.last < p.1 then ⟨put s.found s.first s.last, p.1, p.2⟩ else ⟨s.found, s.first, if p.2 > s.last then p.2 else s.last⟩
def unEnd (s : UnS) : List P2 := put s.found s.first s.last
def unF (ps : List P2) : List P2 := unEnd (ps.foldl unStep ⟨[], 0, 0⟩)
def lexLe (p q : P2) : Prop := p.1 < q.1 ∨ (p.1 = q.1 ∧ p.2 ≤ q.2)
theorem canon_snoc {lo a b : Int} : ∀ {f : List P2}, CanonFrom lo f → (∀ p ∈ f, p.2 < a) → lo < a → a < b → CanonFrom lo (f ++ [(a, b)])
  | [], _, _, h, k => ⟨h, k, trivial⟩
  | p :: r, ⟨h1, h2, h3⟩, hs, _, k => ⟨h1, h2, canon_snoc h3 (fun q m => hs q (List.mem_cons_of_mem _ m)) (hs p List.mem_cons_self) k⟩
/-- the invariant: C what is covered so far -/
structure UnI (s : UnS) (ps : List P2) : Prop where
  canon : Canon s.found
  below : ∀ p ∈ s.found, p.2 < s.first
  oks : Oks s.found
  f0 : 0 ≤ s.first
  fl : s.first ≤ s.last
  l1 : s.last ≤ 1000000
  cov : ∀ x, (covers s.found x ∨ (s.first ≤ x ∧ x < s.last)) ↔ covers ps x
theorem put_ok {s : UnS} {ps : List P2} (I : UnI s ps) : Canon (put s.found s.first s.last) ∧ Oks (put s.found s.first s.last) ∧ (∀ p ∈ put s.found s.first s.last, p.2 ≤ s.last) ∧ ∀ x, covers (put s.found s.first s.last) x ↔ covers ps x := by
  obtain ⟨c, b, o, f0, fl, l1, cov⟩ := I
  unfold put
  by_cases h : s.first < s.last
  · rw [if_pos h]
    refine ⟨canon_snoc c b (by omega) h, ?_, ?_, fun x => ?_⟩
    · intro p hp
      rcases List.mem_append.mp hp with q | q
      · exact o p q
      · cases (List.mem_singleton.mp q)
        exact ⟨f0, h, l1⟩
    · intro p hp
      rcases List.mem_append.mp hp with q | q
      · have := b p q
        omega
      · cases (List.mem_singleton.mp q)
        exact Int.le_refl _
    · rw [covers_append, covers_cons, ← cov x]
      dsimp only
      constructor
      · rintro (q | q | q)
        · exact .inl q
        · exact .inr q
        · exact absurd q covers_nil
      · rintro (q | q)
        · exact .inl q
        · exact .inr (.inl q)
  · rw [if_neg h]
    refine ⟨c, o, fun p hp => by have := b p hp; omega, fun x => ?_⟩
    rw [← cov x]
    constructor
    · exact .inl
    · rintro (q | q)
      · exact q
      · omega
theorem unI_step {s : UnS} {ps : List P2} {p : P2} (I : UnI s ps) (ok : Ok p) (hp : s.first ≤ p.1) : UnI (unStep s p) (ps ++ [p]) ∧ (unStep s p).first ≤ p.1 := by
  have Z := put_ok I
  obtain ⟨c, b, o, f0, fl, l1, cov⟩ := I
  obtain ⟨k0, k1, k2⟩ := ok
  unfold unStep
  by_cases h : s.last < p.1
  · rw [if_pos h]
    obtain ⟨z1, z2, z3, z4⟩ := Z
    refine ⟨⟨z1, fun q hq => ?_, z2, k0, Int.le_of_lt k1, k2, fun x => ?_⟩, Int.le_refl _⟩
    · have := z3 q hq
      show q.2 < p.1
      omega
    · rw [covers_append, covers_cons, ← z4 x]
      constructor
      · rintro (q | q)
        · exact .inl q
        · exact .inr (.inl q)
      · rintro (q | q | q)
        · exact .inl q
        · exact .inr q
        · exact absurd q covers_nil
  · rw [if_neg h]
    refine ⟨⟨c, b, o, f0, ?_, ?_, fun x => ?_⟩, hp⟩
    · show s.first ≤ if p.2 > s.last then p.2 else s.last
      split <;> omega
    · show (if p.2 > s.last then p.2 else s.last) ≤ 1000000
      split <;> omega
    · show (covers s.found x ∨ (s.first ≤ x ∧ x < if p.2 > s.last then p.2 else s.last)) ↔ _
      rw [covers_append, covers_cons, ← cov x]
      constructor
      · rintro (q | ⟨q1, q2⟩)
        · exact .inl (.inl q)
        · by_cases e : x < s.last
          · exact .inl (.inr ⟨q1, e⟩)
          · refine .inr (.inl ⟨by omega, ?_⟩)
            split at q2 <;> omega
      · rintro ((q | ⟨q1, q2⟩) | ⟨q1, q2⟩ | q)
        · exact .inl q
        · refine .inr ⟨q1, ?_⟩
          split <;> omega
        · refine .inr ⟨by omega, ?_⟩
          split <;> omega
        · exact absurd q covers_nil
theorem unI_fold : ∀ {l : List P2} {s : UnS} {ps : List P2}, UnI s ps → Oks l → (∀ p ∈ l, s.first ≤ p.1) → l.Pairwise (fun p q => p.1 ≤ q.1) → UnI (l.foldl unStep s) (ps ++ l)
  | [], s, ps, I, _, _, _ => by rw [List.append_nil]; exact I
  | p :: l, s, ps, I, o, h, w => by
    obtain ⟨I1, h1⟩ := unI_step I (o p List.mem_cons_self) (h p List.mem_cons_self)
    have w' := List.pairwise_cons.mp w
    have := unI_fold (l := l) I1 (fun q m => o q (List.mem_cons_of_mem _ m)) (fun q m => Int.le_trans h1 (w'.1 q m)) w'.2
    rw [List.append_assoc] at this
    exact this
theorem unI_nil : UnI ⟨[], 0, 0⟩ [] := by
  refine ⟨trivial, (fun p h => nomatch h), (fun p h => nomatch h), Int.le_refl _, Int.le_refl _, (by show (0 : Int) ≤ 1000000; decide), fun x => ?_⟩
  constructor
  · rintro (q | ⟨q, r⟩)
    · exact q
    · dsimp only at q r; omega
  · exact .inl
/-- what united makes of sorted pairs -/
theorem unF_ok {l : List P2} (o : Oks l) (w : l.Pairwise (fun p q => p.1 ≤ q.1)) : Canon (unF l) ∧ Oks (unF l) ∧ ∀ x, covers (unF l) x ↔ covers l x := by
  have I := unI_fold unI_nil o (fun p m => (o p m).1) w
  rw [List.nil_append] at I
  obtain ⟨a, b, _, d⟩ := put_ok I
  exact ⟨a, b, d⟩

/-! ### shared, rest_of -/
def meet (p q : P2) : P2 := (if q.1 > p.1 then q.1 else p.1, if q.2 < p.2 then q.2 else p.2)
def sharedF (a b : List P2) : List P2 := (a.flatMap fun p => b.map (meet p)).filter fun p => decide (p.1 < p.2)
theorem covers_shared {a b : List P2} {x : Int} : covers (sharedF a b) x ↔ covers a x ∧ covers b x := by
  unfold covers sharedF
  constructor
  · rintro ⟨r, hr, h1, h2⟩
    obtain ⟨hr, _⟩ := List.mem_filter.mp hr
    obtain ⟨p, hp, hr⟩ := List.mem_flatMap.mp hr
    obtain ⟨q, hq, rfl⟩ := List.mem_map.mp hr
    unfold meet at h1 h2
    dsimp only at h1 h2
    refine ⟨⟨p, hp, ?_⟩, ⟨q, hq, ?_⟩⟩ <;> (split at h1 <;> split at h2 <;> omega)
  · rintro ⟨⟨p, hp, h1, h2⟩, ⟨q, hq, k1, k2⟩⟩
    have e1 : (meet p q).1 ≤ x := by unfold meet; dsimp only; split <;> omega
    have e2 : x < (meet p q).2 := by unfold meet; dsimp only; split <;> omega
    refine ⟨meet p q, List.mem_filter.mpr ⟨List.mem_flatMap.mpr ⟨p, hp, List.mem_map.mpr ⟨q, hq, rfl⟩⟩, decide_eq_true (by omega)⟩, e1, e2⟩
theorem oks_shared {a b : List P2} (ha : Oks a) (hb : Oks b) : Oks (sharedF a b) := by
  intro r hr
  obtain ⟨hr, h⟩ := List.mem_filter.mp hr
  obtain ⟨p, hp, hr⟩ := List.mem_flatMap.mp hr
  obtain ⟨q, hq, rfl⟩ := List.mem_map.mp hr
  obtain ⟨a1, a2, a3⟩ := ha p hp
  obtain ⟨b1, b2, b3⟩ := hb q hq
  have h' := of_decide_eq_true h
  refine ⟨?_, h', ?_⟩ <;> (unfold meet; dsimp only; split <;> omega)
def restF (ps : List P2) : List P2 := (((0 : Int) :: ps.map (·.2)).zip (ps.map (·.1) ++ [1000000])).filter fun p => decide (p.1 < p.2)
def gaps : Int → List P2 → List P2
  | lo, [] => [(lo, 1000000)]
  | lo, p :: r => (lo, p.1) :: gaps p.2 r
theorem zip_gaps : ∀ (ps : List P2) (lo : Int), (lo :: ps.map (·.2)).zip (ps.map (·.1) ++ [1000000]) = gaps lo ps
  | [], lo => rfl
  | p :: r, lo => by
    show (lo, p.1) :: ((p.2 :: r.map (·.2)).zip (r.map (·.1) ++ [1000000])) = _
    rw [zip_gaps r p.2]
    rfl
theorem covers_filter {ps : List P2} {x : Int} : covers (ps.filter fun p => decide (p.1 < p.2)) x ↔ covers ps x := by
  unfold covers
  constructor
  · rintro ⟨p, h, q⟩; exact ⟨p, (List.mem_filter.mp h).1, q⟩
  · rintro ⟨p, h, q⟩; exact ⟨p, List.mem_filter.mpr ⟨h, decide_eq_true (by omega)⟩, q⟩
theorem covers_gaps : ∀ {ps : List P2} {lo lo' : Int}, CanonFrom lo' ps → lo' ≤ lo → (∀ p ∈ ps, p.2 ≤ 1000000) → (∀ p ∈ ps, lo ≤ p.1) → ∀ x, covers (gaps lo ps) x ↔ (lo ≤ x ∧ x < 1000000 ∧ ¬ covers ps x)
  | [], lo, lo', _, _, _, _, x => by
    unfold gaps
    rw [covers_cons]
    constructor
    · rintro (⟨a, b⟩ | q)
      · exact ⟨a, b, covers_nil⟩
      · exact absurd q covers_nil
    · rintro ⟨a, b, _⟩
      exact .inl ⟨a, b⟩
  | p :: r, lo, lo', ⟨h1, h2, h3⟩, hl, hm, ho, x => by
    have hp := hm p List.mem_cons_self
    have hlo := ho p List.mem_cons_self
    have low : ∀ q ∈ r, p.2 ≤ q.1 := by
      intro q hq
      have hc : ∀ {f : List P2} {l : Int}, CanonFrom l f → ∀ q ∈ f, l < q.1 := by
        intro f
        induction f with
        | nil => intro l _ q h; cases h
        | cons a t ih =>
          intro l ⟨g1, g2, g3⟩ q h
          rcases List.mem_cons.mp h with e | e
          · rw [e]; exact g1
          · have := ih g3 q e
            omega
      exact Int.le_of_lt (hc h3 q hq)
    have ih := covers_gaps h3 (Int.le_refl p.2) (fun q m => hm q (List.mem_cons_of_mem _ m)) low x
    show covers ((lo, p.1) :: gaps p.2 r) x ↔ _
    rw [covers_cons, ih, covers_cons]
    dsimp only
    constructor
    · rintro (⟨a, b⟩ | ⟨a, b, c⟩)
      · refine ⟨a, by omega, ?_⟩
        rintro (q | q)
        · omega
        · have := h3.low q
          omega
      · refine ⟨by omega, b, ?_⟩
        rintro (q | q)
        · omega
        · exact c q
    · rintro ⟨a, b, c⟩
      by_cases e : x < p.1
      · exact .inl ⟨a, e⟩
      · refine .inr ⟨?_, b, fun q => c (.inr q)⟩
        rcases Int.lt_or_le x p.2 with q | q
        · exact absurd (.inl ⟨by omega, q⟩) c
        · exact q
theorem covers_rest {ps : List P2} (c : Canon ps) (o : Oks ps) (x : Int) : covers (restF ps) x ↔ (0 ≤ x ∧ x < 1000000 ∧ ¬ covers ps x) := by
  unfold restF
  rw [zip_gaps, covers_filter]
  exact covers_gaps c (by omega) (fun p m => (o p m).2.2) (fun p m => (o p m).1) x
theorem gaps_bounds : ∀ {ps : List P2} {lo : Int}, Oks ps → 0 ≤ lo → ∀ p ∈ gaps lo ps, 0 ≤ p.1 ∧ p.2 ≤ 1000000
  | [], lo, _, h, p, hp => by
    unfold gaps at hp
    cases (List.mem_singleton.mp hp)
    exact ⟨h, Int.le_refl _⟩
  | q :: r, lo, o, h, p, hp => by
    obtain ⟨a, b, c⟩ := o q List.mem_cons_self
    rcases List.mem_cons.mp (show p ∈ (lo, q.1) :: gaps q.2 r from hp) with e | e
    · rw [e]; exact ⟨h, by show q.1 ≤ 1000000; omega⟩
    · exact gaps_bounds (fun s m => o s (List.mem_cons_of_mem _ m)) (by omega) p e
theorem oks_rest {ps : List P2} (o : Oks ps) : Oks (restF ps) := by
  intro p hp
  unfold restF at hp
  rw [zip_gaps] at hp
  obtain ⟨h1, h2⟩ := List.mem_filter.mp hp
  obtain ⟨a, b⟩ := gaps_bounds o (Int.le_refl 0) p h1
  exact ⟨a, of_decide_eq_true h2, b⟩

/-! ### how many -/
def total (ps : List P2) : Int := (ps.map fun p => p.2 - p.1).sum
def mostN : Nat := 1000000
theorem mostN_eq : (mostN : Int) = 1000000 := rfl
def cnt (ps : List P2) : Nat := (List.range mostN).countP fun n : Nat => mem ps (n : Int)
theorem countP_or_and {α : Type} (p q : α → Bool) : ∀ l : List α, l.countP (fun x => p x || q x) + l.countP (fun x => p x && q x) = l.countP p + l.countP q
  | [] => rfl
  | a :: l => by
    have ih := countP_or_and p q l
    simp only [List.countP_cons]
    cases p a <;> cases q a <;> simp <;> omega
theorem countP_range_iv : ∀ (N : Nat) (a b : Int), 0 ≤ a → a ≤ b → b ≤ N → (((List.range N).countP fun n : Nat => decide (a ≤ (n : Int)) && decide ((n : Int) < b) : Nat) : Int) = b - a
  | 0, a, b, h1, h2, h3 => by simp at h3 ⊢; omega
  | N + 1, a, b, h1, h2, h3 => by
    rw [List.range_succ, List.countP_append, List.countP_singleton]
    by_cases hb : b ≤ N
    · have ih := countP_range_iv N a b h1 h2 hb
      have e : (decide (a ≤ (N : Int)) && decide ((N : Int) < b)) = false := by
        rw [decide_eq_false (show ¬ (N : Int) < b by omega), Bool.and_false]
      rw [e]
      simp only [Bool.false_eq_true, if_false, Nat.add_zero]
      exact ih
    · have eb : b = N + 1 := by omega
      by_cases ha : a ≤ N
      · have ih := countP_range_iv N a N h1 ha (Int.le_refl _)
        have c : (List.range N).countP (fun n : Nat => decide (a ≤ (n : Int)) && decide ((n : Int) < b)) = (List.range N).countP fun n : Nat => decide (a ≤ (n : Int)) && decide ((n : Int) < (N : Int)) := by
          apply List.countP_congr
          intro n hn
          have hn := List.mem_range.mp hn
          rw [decide_eq_true (show (n : Int) < b by omega), decide_eq_true (show (n : Int) < (N : Int) by omega)]
        rw [c]
        have e : (decide (a ≤ (N : Int)) && decide ((N : Int) < b)) = true := by
          rw [decide_eq_true (show (N : Int) < b by omega), decide_eq_true ha, Bool.and_true]
        rw [e]
        simp only [if_true]
        omega
      · have ea : a = b := by omega
        have c : (List.range N).countP (fun n : Nat => decide (a ≤ (n : Int)) && decide ((n : Int) < b)) = 0 := by
          rw [List.countP_eq_zero]
          intro n hn
          rw [decide_eq_false (show ¬ a ≤ (n : Int) by have := List.mem_range.mp hn; omega), Bool.false_and]
          simp
        rw [c]
        have e : (decide (a ≤ (N : Int)) && decide ((N : Int) < b)) = false := by
          rw [decide_eq_false (show ¬ a ≤ (N : Int) by omega), Bool.false_and]
        rw [e]
        simp
        omega
theorem total_cnt_from : ∀ {ps : List P2} {lo : Int}, CanonFrom lo ps → Oks ps → total ps = (cnt ps : Int)
  | [], _, _, _ => by
    unfold total cnt mem
    rw [show (List.range mostN).countP (fun n : Nat => ([] : List P2).any fun p => decide (p.1 ≤ (n : Int)) && decide ((n : Int) < p.2)) = 0 from by
      rw [List.countP_eq_zero]
      intro n _
      simp]
    rfl
  | p :: r, lo, ⟨h1, h2, h3⟩, o => by
    obtain ⟨o1, o2, o3⟩ := o p List.mem_cons_self
    have ih := total_cnt_from h3 fun q m => o q (List.mem_cons_of_mem _ m)
    have iv := countP_range_iv mostN p.1 p.2 o1 (Int.le_of_lt o2) (by rw [mostN_eq]; exact o3)
    have oa := countP_or_and (fun n : Nat => decide (p.1 ≤ (n : Int)) && decide ((n : Int) < p.2)) (fun n : Nat => mem r (n : Int)) (List.range mostN)
    have z : (List.range mostN).countP (fun n : Nat => (decide (p.1 ≤ (n : Int)) && decide ((n : Int) < p.2)) && mem r (n : Int)) = 0 := by
      rw [List.countP_eq_zero]
      intro n _ hn
      rw [Bool.and_eq_true, Bool.and_eq_true] at hn
      have q := h3.low (mem_iff.mp hn.2)
      have := of_decide_eq_true hn.1.2
      omega
    have e : cnt (p :: r) = (List.range mostN).countP (fun n : Nat => (decide (p.1 ≤ (n : Int)) && decide ((n : Int) < p.2)) || mem r (n : Int)) := rfl
    have t : total (p :: r) = (p.2 - p.1) + total r := by unfold total; rw [List.map_cons, List.sum_cons]
    unfold cnt at ih
    rw [e, t]
    omega
theorem total_cnt {ps : List P2} (c : Canon ps) (o : Oks ps) : total ps = (cnt ps : Int) := total_cnt_from c o
theorem cnt_of {ps qs : List P2} (h : ∀ x, covers ps x ↔ covers qs x) : cnt ps = cnt qs := by
  unfold cnt
  apply List.countP_congr
  intro n _
  rw [mem_iff, mem_iff]
  exact h _
theorem cnt_or_and {a b u i : List P2} (hu : ∀ x, covers u x ↔ covers a x ∨ covers b x) (hi : ∀ x, covers i x ↔ covers a x ∧ covers b x) : cnt u + cnt i = cnt a + cnt b := by
  have oa := countP_or_and (fun n : Nat => mem a (n : Int)) (fun n : Nat => mem b (n : Int)) (List.range mostN)
  have e1 : cnt u = (List.range mostN).countP (fun n : Nat => mem a (n : Int) || mem b (n : Int)) := by
    unfold cnt
    apply List.countP_congr
    intro n _
    rw [mem_iff, Bool.or_eq_true, mem_iff, mem_iff]
    exact hu _
  have e2 : cnt i = (List.range mostN).countP (fun n : Nat => mem a (n : Int) && mem b (n : Int)) := by
    unfold cnt
    apply List.countP_congr
    intro n _
    rw [mem_iff, Bool.and_eq_true, mem_iff, mem_iff]
    exact hi _
  rw [e1, e2]
  exact oa
theorem total_nonneg {ps : List P2} (o : Oks ps) : 0 ≤ total ps := by
  unfold total
  induction ps with
  | nil => exact Int.le_refl _
  | cons p r ih =>
    rw [List.map_cons, List.sum_cons]
    have := ih fun q m => o q (List.mem_cons_of_mem _ m)
    obtain ⟨_, h, _⟩ := o p List.mem_cons_self
    omega
theorem cnt_le (ps : List P2) : cnt ps ≤ mostN := by
  unfold cnt
  have := List.countP_le_length (p := fun n : Nat => mem ps (n : Int)) (l := List.range mostN)
  rwa [List.length_range] at this

/-! ### the law's couples of ascending positions -/
def cpStep (f : List P2) (x : Int) : List P2 := match f.getLast? with
  | some p => if p.2 = x then f.dropLast ++ [(p.1, x + 1)] else f ++ [(x, x + 1)]
  | none => [(x, x + 1)]
def cpF (ks : List Int) : List P2 := ks.foldl cpStep []
theorem cpStep_nil (x : Int) : cpStep [] x = [(x, x + 1)] := rfl
theorem cpStep_snoc (g : List P2) (p : P2) (x : Int) : cpStep (g ++ [p]) x = if p.2 = x then g ++ [(p.1, x + 1)] else g ++ [p] ++ [(x, x + 1)] := by
  unfold cpStep
  rw [List.getLast?_concat]
  show (if p.2 = x then (g ++ [p]).dropLast ++ [(p.1, x + 1)] else g ++ [p] ++ [(x, x + 1)]) = _
  rw [List.dropLast_concat]
theorem canon_ext {lo a b b' : Int} (hb : b ≤ b') : ∀ {g : List P2}, CanonFrom lo (g ++ [(a, b)]) → CanonFrom lo (g ++ [(a, b')])
  | [], ⟨h1, h2, _⟩ => ⟨h1, Int.lt_of_lt_of_le h2 hb, trivial⟩
  | p :: r, ⟨h1, h2, h3⟩ => ⟨h1, h2, canon_ext hb h3⟩
theorem canon_tops {lo : Int} : ∀ {g : List P2} {p : P2}, CanonFrom lo (g ++ [p]) → ∀ q ∈ g, q.2 < p.1
  | [], _, _, q, h => nomatch h
  | a :: r, p, ⟨h1, h2, h3⟩, q, h => by
    rcases List.mem_cons.mp h with e | e
    · rw [e]
      have hc : ∀ {f : List P2} {l : Int}, CanonFrom l f → ∀ q ∈ f, l < q.1 := by
        intro f
        induction f with
        | nil => intro l _ q h; cases h
        | cons a t ih =>
          intro l ⟨g1, g2, g3⟩ q h
          rcases List.mem_cons.mp h with e | e
          · rw [e]; exact g1
          · have := ih g3 q e
            omega
      exact hc h3 p (List.mem_append_right _ (List.mem_singleton.mpr rfl))
    · exact canon_tops h3 q e
structure CpI (f : List P2) (ks : List Int) : Prop where
  canon : Canon f
  oks : Oks f
  cov : ∀ x, covers f x ↔ x ∈ ks
theorem cpI_nil : CpI [] [] := ⟨trivial, (fun p h => nomatch h), fun x => ⟨fun h => absurd h covers_nil, fun h => nomatch h⟩⟩
theorem cpI_step {f : List P2} {ks : List Int} {x : Int} (I : CpI f ks) (hx : ∀ k ∈ ks, k < x) (h0 : 0 ≤ x) (h1 : x < 1000000) : CpI (cpStep f x) (ks ++ [x]) := by
  obtain ⟨c, o, cov⟩ := I
  have tops : ∀ p ∈ f, p.2 ≤ x := fun p hp => by
    obtain ⟨a, b, d⟩ := o p hp
    have m : covers f (p.2 - 1) := ⟨p, hp, by omega, by omega⟩
    have := hx _ ((cov _).mp m)
    omega
  rcases List.eq_nil_or_concat f with e | ⟨g, p, e⟩
  · subst e
    rw [cpStep_nil]
    refine ⟨⟨by show (-1 : Int) < x; omega, by show x < x + 1; omega, trivial⟩, fun p hp => ?_, fun y => ?_⟩
    · cases (List.mem_singleton.mp hp)
      exact ⟨h0, by show x < x + 1; omega, by show x + 1 ≤ 1000000; omega⟩
    · rw [covers_cons, List.mem_append, List.mem_singleton, ← cov y]
      dsimp only
      constructor
      · rintro (⟨a, b⟩ | q)
        · exact .inr (by omega)
        · exact .inl q
      · rintro (q | q)
        · exact .inr q
        · exact .inl ⟨by omega, by omega⟩
  · have e' : f = g ++ [p] := by rw [e, List.concat_eq_append]
    subst e'
    rw [cpStep_snoc]
    have hp := tops p (List.mem_append_right _ (List.mem_singleton.mpr rfl))
    obtain ⟨p1, p2, p3⟩ := o p (List.mem_append_right _ (List.mem_singleton.mpr rfl))
    by_cases h : p.2 = x
    · rw [if_pos h]
      refine ⟨canon_ext (b := p.2) (by omega) c, fun q hq => ?_, fun y => ?_⟩
      · rcases List.mem_append.mp hq with q' | q'
        · exact o q (List.mem_append_left _ q')
        · cases (List.mem_singleton.mp q')
          exact ⟨p1, by show p.1 < x + 1; omega, by show x + 1 ≤ 1000000; omega⟩
      · have hc := cov y
        rw [covers_append, covers_cons] at hc
        rw [covers_append, covers_cons, List.mem_append, List.mem_singleton, ← hc]
        dsimp only
        constructor
        · rintro (q | ⟨a, b⟩ | q)
          · exact .inl (.inl q)
          · by_cases z : y < p.2
            · exact .inl (.inr (.inl ⟨a, z⟩))
            · exact .inr (by omega)
          · exact absurd q covers_nil
        · rintro ((q | ⟨a, b⟩ | q) | q)
          · exact .inl q
          · exact .inr (.inl ⟨a, by omega⟩)
          · exact absurd q covers_nil
          · exact .inr (.inl ⟨by omega, by omega⟩)
    · rw [if_neg h]
      refine ⟨canon_snoc c (fun q hq => ?_) (by omega) (by omega), fun q hq => ?_, fun y => ?_⟩
      · have := tops q hq
        rcases List.mem_append.mp hq with q' | q'
        · have := canon_tops c q q'
          omega
        · cases (List.mem_singleton.mp q')
          omega
      · rcases List.mem_append.mp hq with q' | q'
        · exact o q q'
        · cases (List.mem_singleton.mp q')
          exact ⟨h0, by show x < x + 1; omega, by show x + 1 ≤ 1000000; omega⟩
      · rw [covers_append, covers_cons, List.mem_append, List.mem_singleton, ← cov y]
        dsimp only
        constructor
        · rintro (q | ⟨a, b⟩ | q)
          · exact .inl q
          · exact .inr (by omega)
          · exact absurd q covers_nil
        · rintro (q | q)
          · exact .inl q
          · exact .inr (.inl ⟨by omega, by omega⟩)
theorem cpI_fold : ∀ {l : List Int} {f : List P2} {ks : List Int}, CpI f ks → (∀ k ∈ ks, ∀ x ∈ l, k < x) → l.Pairwise (· < ·) → (∀ x ∈ l, 0 ≤ x ∧ x < 1000000) → CpI (l.foldl cpStep f) (ks ++ l)
  | [], f, ks, I, _, _, _ => by rw [List.append_nil]; exact I
  | x :: l, f, ks, I, h, w, o => by
    have w' := List.pairwise_cons.mp w
    have I1 := cpI_step I (fun k hk => h k hk x List.mem_cons_self) (o x List.mem_cons_self).1 (o x List.mem_cons_self).2
    have := cpI_fold (l := l) I1 (fun k hk y hy => by
      rcases List.mem_append.mp hk with q | q
      · exact h k q y (List.mem_cons_of_mem _ hy)
      · rw [List.mem_singleton.mp q]
        exact w'.1 y hy) w'.2 fun y hy => o y (List.mem_cons_of_mem _ hy)
    rw [List.append_assoc] at this
    exact this
theorem cpF_ok {ks : List Int} (w : ks.Pairwise (· < ·)) (o : ∀ x ∈ ks, 0 ≤ x ∧ x < 1000000) : Canon (cpF ks) ∧ Oks (cpF ks) ∧ ∀ x, covers (cpF ks) x ↔ x ∈ ks := by
  have I := cpI_fold cpI_nil (fun k h => nomatch h) w o
  rw [List.nil_append] at I
  exact ⟨I.canon, I.oks, I.cov⟩
theorem strict_of {ks : List Int} (w : ks.Pairwise (· ≤ ·)) (nd : ks.Nodup) : ks.Pairwise (· < ·) := by
  have h := List.Pairwise.and w nd
  exact h.imp fun {a b} ⟨h1, h2⟩ => by omega
theorem len_total : ∀ {ps : List P2}, Oks ps → (ps.length : Int) ≤ total ps
  | [], _ => by show (0 : Int) ≤ 0; decide
  | p :: r, o => by
    have h1 := len_total fun q m => o q (List.mem_cons_of_mem p m)
    obtain ⟨_, h2, _⟩ := o p List.mem_cons_self
    show ((r.length + 1 : Nat) : Int) ≤ ((p :: r).map fun p => p.2 - p.1).sum
    rw [List.map_cons, List.sum_cons]
    have h3 : total r = (r.map fun p => p.2 - p.1).sum := rfl
    omega
theorem len_cnt {ps : List P2} (c : Canon ps) (o : Oks ps) : ps.length ≤ cnt ps := by
  have h1 := len_total o
  rw [total_cnt c o] at h1
  omega
theorem len_of {ps : List P2} (c : Canon ps) (o : Oks ps) : ps.length ≤ mostN := Nat.le_trans (len_cnt c o) (cnt_le ps)
theorem countP_le_of {α : Type} {p q : α → Bool} (h : ∀ a, p a = true → q a = true) : ∀ l : List α, l.countP p ≤ l.countP q
  | [] => by simp
  | a :: l => by
    have ih := countP_le_of h l
    rw [List.countP_cons, List.countP_cons]
    by_cases e : p a = true
    · rw [if_pos e, if_pos (h a e)]
      omega
    · rw [if_neg e]
      split <;> omega
theorem countP_or_le {α : Type} (p q : α → Bool) (l : List α) : l.countP (fun x => p x || q x) ≤ l.countP p + l.countP q := by
  have := countP_or_and p q l
  omega
theorem countP_one (N : Nat) (k : Int) : (List.range N).countP (fun n : Nat => decide ((n : Int) = k)) ≤ 1 := by
  by_cases h : 0 ≤ k ∧ k < (N : Int)
  · have e := countP_range_iv N k (k + 1) h.1 (by omega) (by omega)
    have e2 : ((List.range N).countP fun n : Nat => decide ((n : Int) = k)) ≤ (List.range N).countP fun n : Nat => decide (k ≤ (n : Int)) && decide ((n : Int) < k + 1) :=
      countP_le_of (fun n hn => by
        have hn := of_decide_eq_true hn
        rw [Bool.and_eq_true]
        exact ⟨decide_eq_true (by omega), decide_eq_true (by omega)⟩) _
    omega
  · have e : (List.range N).countP (fun n : Nat => decide ((n : Int) = k)) = 0 := by
      rw [List.countP_eq_zero]
      intro n hn hc
      have hn := List.mem_range.mp hn
      have hc := of_decide_eq_true hc
      exact h ⟨by omega, by omega⟩
    omega
theorem countP_keys (N : Nat) : ∀ ks : List Int, (List.range N).countP (fun n : Nat => decide ((n : Int) ∈ ks)) ≤ ks.length
  | [] => by
    rw [show (List.range N).countP (fun n : Nat => decide ((n : Int) ∈ ([] : List Int))) = 0 from by
      rw [List.countP_eq_zero]
      intro n _ hc
      exact absurd (of_decide_eq_true hc) List.not_mem_nil]
    exact Nat.zero_le _
  | k :: r => by
    have ih := countP_keys N r
    have e1 := countP_one N k
    have e2 := countP_or_le (fun n : Nat => decide ((n : Int) = k)) (fun n : Nat => decide ((n : Int) ∈ r)) (List.range N)
    have e3 : (List.range N).countP (fun n : Nat => decide ((n : Int) ∈ k :: r)) ≤ (List.range N).countP fun n : Nat => decide ((n : Int) = k) || decide ((n : Int) ∈ r) :=
      countP_le_of (fun n hn => by
        rw [Bool.or_eq_true]
        rcases List.mem_cons.mp (of_decide_eq_true hn) with e | e
        · exact .inl (decide_eq_true e)
        · exact .inr (decide_eq_true e)) _
    rw [List.length_cons]
    omega
theorem cnt_keys {ps : List P2} {ks : List Int} (h : ∀ x, covers ps x → x ∈ ks) : cnt ps ≤ ks.length :=
  Nat.le_trans (countP_le_of (fun n hn => decide_eq_true (h _ (mem_iff.mp hn))) _) (countP_keys mostN ks)
theorem cnt_mono {ps qs : List P2} (h : ∀ x, covers ps x → covers qs x) : cnt ps ≤ cnt qs :=
  countP_le_of (fun n hn => mem_iff.mpr (h _ (mem_iff.mp hn))) _
theorem cnt_nil : cnt [] = 0 := by
  unfold cnt
  rw [List.countP_eq_zero]
  intro n _ hc
  exact absurd (mem_iff.mp hc) covers_nil
theorem cnt_split {a s i : List P2} (ha : ∀ x, covers a x ↔ covers s x ∨ covers i x) (hd : ∀ x, ¬ (covers s x ∧ covers i x)) : cnt a = cnt s + cnt i := by
  have := cnt_or_and (a := s) (b := i) (u := a) (i := []) ha (fun x => ⟨fun z => absurd z covers_nil, fun z => absurd z (hd x)⟩)
  rw [cnt_nil] at this
  omega
theorem cnt_or_le {a b u : List P2} (h : ∀ x, covers u x ↔ covers a x ∨ covers b x) : cnt u ≤ cnt a + cnt b := by
  have := cnt_or_and (a := a) (b := b) (u := u) (i := sharedF a b) h fun x => covers_shared
  omega
end M1

namespace S1
open PySem PySem.Spec PyProof.Rows L2 StX
/-! ### a def as it may be called: no exception leaves it -/
structure Cal (P : Program) (w : World) (K : PySem.W.Frag) (mg : Str → Option Value) (base : Heap) (k : Nat) (x : Str) (ps : List Str) (sp : Sp) (f : Addr) (fd : FuncData) : Prop where
  ok : FnOk P w K mg base CX0 k f fd ps sp
  gm : mg x = some (.ref f)
  kp : PySem.W.keepIn K (.ref f) = true
  b : Binds K fd ps []
section
variable {X : Cx} {k m : Nat} {f : Addr} {fd : FuncData} {ps : List Str} {sp : Sp} {x : Str} {p pos : Pos} {e : Expr} {es : List Expr} {t : TA}
theorem pe_c (D : Cal X.prog X.w X.K X.mg X.base k x ps sp f fd) (hr : Room m X.A) (hg : Gl X x) (ha : PA X (e :: es) t) (hk : k ≤ m := by decide) (hdb : (x == ("__debug__" : Str)) = false := by decide)
    (he : starEach (e :: es) X.env = (false, eval e X.env) :: starEach es X.env := by rfl) (hpl : (backTo pos (starEach es X.env)).any (·.1) = false := by rfl) : PE X (.Call (.Name x p) (e :: es) [] pos) (tCall sp [] E0 t) :=
  pe_call D.ok (hr.mono hk) hg D.gm D.kp D.b .nil pass0 ha hdb he hpl
theorem pe_c0 (D : Cal X.prog X.w X.K X.mg X.base k x ps sp f fd) (hr : Room m X.A) (hg : Gl X x) (hk : k ≤ m := by decide) (hdb : (x == ("__debug__" : Str)) = false := by decide) : PE X (.Call (.Name x p) [] [] pos) (tCall sp [] E0 tNil) :=
  pe_call0 D.ok (hr.mono hk) hg D.gm D.kp D.b .nil pass0 hdb
/-- a module's whole number -/
theorem pe_gi {i : Int} (hg : Gl X x) (h : ∃ t, X.mg x = some (.int i t)) (hd : (x == ("__debug__" : Str)) = false := by decide) : PE X (.Name x pos) (tC (.int i)) := by
  obtain ⟨t, h⟩ := h
  exact pe_glob hg h ⟨t, rfl⟩ hd
end
/-! ### comprehensions and loops over anything that is walked n times -/
theorem yesT {σ : L2.St} {H : Hp} {F G : Hp → Prop} (h : F H) : tYes σ H fun b H' => if b = true then F H' else G H' := by
  show if true = true then F H else G H
  rw [if_pos rfl]
  exact h
theorem lc_it {J : It} {n : Nat} {B : V → Hp → (Hp → Prop) → Prop} {H1 : Hp} {Qd : Hp → Prop} (Pv : Nat → Hp → Prop) (h0 : Pv 0 H1) (hgo : ∀ i H, i < n → Pv i H → J.go i H) (hst : ∀ H, Pv n H → J.stop n H)
    (hs : ∀ i H x H', i < n → Pv i H → J.yld i H x H' → B x H' (Pv (i + 1))) (hd : ∀ H, Pv n H → Qd H) :
    ∃ W : Nat → Nat → Hp → Prop, (∃ m, W 0 m H1) ∧ ∀ i m H, W i m H →
      (J.stop i H ∧ Qd H) ∨ (J.go i H ∧ ∃ Nx : Hp → Prop, (∀ H', Nx H' → ∃ m', m' < m ∧ W (i + 1) m' H') ∧ ∀ x H', J.yld i H x H' → B x H' Nx) := by
  refine ⟨fun i m H => m = n - i ∧ i ≤ n ∧ Pv i H, ⟨n, by simp, Nat.zero_le _, h0⟩, ?_⟩
  rintro i m H ⟨rfl, hi, p⟩
  by_cases hlt : i < n
  · exact .inr ⟨hgo i H hlt p, Pv (i + 1), fun H' p' => ⟨n - (i + 1), by omega, rfl, hlt, p'⟩, fun x H' y => hs i H x H' hlt p y⟩
  · have e : i = n := by omega
    subst e
    exact .inl ⟨hst H p, hd H p⟩
theorem for_it {J : It} {n : Nat} {g : TG} {tb : TS} {D : Ends} {σ : L2.St} {H : Hp} (Pv : Nat → L2.St → Hp → Prop) (h0 : Pv 0 σ H) (hgo : ∀ i σ H, i < n → Pv i σ H → J.go i H) (hst : ∀ σ H, Pv n σ H → J.stop n H)
    (hs : ∀ i σ H x H', i < n → Pv i σ H → J.yld i H x H' → g x σ H' fun σ2 H2 => tb { D with nx := Pv (i + 1), ct := Pv (i + 1), bk := D.nx } σ2 H2) (hd : ∀ σ H, Pv n σ H → D.nx σ H) :
    ∃ W : Nat → Nat → L2.St → Hp → Prop, (∃ m, W 0 m σ H) ∧ ∀ i m σ H, W i m σ H →
      (J.stop i H ∧ D.nx σ H) ∨ (J.go i H ∧ ∃ N : L2.St → Hp → Prop, (∀ σ' H', N σ' H' → ∃ m', m' < m ∧ W (i + 1) m' σ' H') ∧ ∀ v H', J.yld i H v H' → g v σ H' fun σ2 H2 => tb { D with nx := N, ct := N, bk := D.nx } σ2 H2) := by
  refine ⟨fun i m σ H => m = n - i ∧ i ≤ n ∧ Pv i σ H, ⟨n, by simp, Nat.zero_le _, h0⟩, ?_⟩
  rintro i m σ H ⟨rfl, hi, p⟩
  by_cases hlt : i < n
  · exact .inr ⟨hgo i σ H hlt p, Pv (i + 1), fun σ' H' p' => ⟨n - (i + 1), by omega, rfl, hlt, p'⟩, fun x H' y => hs i σ H x H' hlt p y⟩
  · have e : i = n := by omega
    subst e
    exact .inl ⟨hst σ H p, hd σ H p⟩
/-- a list or a tuple that stands -/
def Seqs (K : PySem.W.Frag) (H : Hp) (a : Addr) (xs : List V) : Prop := SqL K H a xs ∨ SqT K H a xs
theorem seq_go {K : PySem.W.Frag} {H0 H : Hp} {a : Addr} {xs : List V} {R : It → Hp → Prop} (h : Seqs K H0 a xs) (hs : Same H0 H)
    (k : ∀ (J : It), (∀ H i, Same H0 H → i < xs.length → J.go i H) → (∀ H, Same H0 H → J.stop xs.length H) → (∀ H i x H', Same H0 H → J.yld i H x H' → H' = H ∧ xs[i]? = some x) → R J H) :
    (((∃ xs, SqL K H a xs) ∧ R (Itl K a) H) ∨ ((∃ xs, SqT K H a xs) ∧ R (Itt K a) H)) := by
  rcases h with h | h
  · have m : ∀ {H}, Same H0 H → SqL K H a xs := fun s => s.seq h
    exact .inl ⟨⟨xs, m hs⟩, k _ (fun H i s hi => ⟨xs, xs[i], m s, List.getElem?_eq_getElem hi⟩) (fun H s => ⟨xs, m s, Nat.le_refl _⟩) fun H i x H' s y => ⟨y.1, y.2 xs (m s)⟩⟩
  · have m : ∀ {H}, Same H0 H → SqT K H a xs := fun s => SqT.ext h s
    exact .inr ⟨⟨xs, m hs⟩, k _ (fun H i s hi => ⟨xs, xs[i], m s, List.getElem?_eq_getElem hi⟩) (fun H s => ⟨xs, m s, Nat.le_refl _⟩) fun H i x H' s y => ⟨y.1, y.2 xs (m s)⟩⟩
theorem iSeq_var {K : PySem.W.Frag} {σ : L2.St} {i : Nat} {H0 H : Hp} {a : Addr} {xs : List V} {R : It → Hp → Prop} (hσ : σ[i]? = some (some (.ref a))) (h : Seqs K H0 a xs) (hs : Same H0 H)
    (k : ∀ (J : It), (∀ H i, Same H0 H → i < xs.length → J.go i H) → (∀ H, Same H0 H → J.stop xs.length H) → (∀ H i x H', Same H0 H → J.yld i H x H' → H' = H ∧ xs[i]? = some x) → R J H) : iSeq K (tVar i) σ H R :=
  ⟨.ref a, hσ, a, rfl, seq_go h hs k⟩
end S1

namespace S1
open PySem PySem.Spec PyProof.Rows L2 StX M1
/-! ### rows of pairs in the heap -/
def PairV (H : Hp) (x : V) (p : P2) : Prop := ∃ t, x = .ref t ∧ H t = some (.tup [.int p.1, .int p.2])
abbrev PairsV (H : Hp) : List V → List P2 → Prop := Paired (PairV H)
def TupP (H : Hp) (a : Addr) (ps : List P2) : Prop := ∃ xs, H a = some (.tup xs) ∧ PairsV H xs ps
def LstP (H : Hp) (a : Addr) (ps : List P2) : Prop := ∃ xs, H a = some (.lst xs) ∧ PairsV H xs ps
theorem Paired.imp2 {α β : Type} {F G : α → β → Prop} (h : ∀ a b, F a b → G a b) : ∀ {l1 : List α} {l2 : List β}, Paired F l1 l2 → Paired G l1 l2
  | _, _, .nil => .nil
  | _, _, .cons r t => .cons (h _ _ r) (Paired.imp2 h t)
/-- tuples stay -/
def TupsStay (H H' : Hp) : Prop := ∀ b xs, H b = some (.tup xs) → H' b = some (.tup xs)
theorem Same.tups {H H' : Hp} (s : Same H H') : TupsStay H H' := fun b xs h => s b _ h
theorem PairsV.stay {H H' : Hp} (s : TupsStay H H') {xs : List V} {ps : List P2} (h : PairsV H xs ps) : PairsV H' xs ps := Paired.imp2 (fun x p ⟨t, e, q⟩ => ⟨t, e, s _ _ q⟩) h
theorem PairsV.len {H : Hp} {xs : List V} {ps : List P2} (h : PairsV H xs ps) : xs.length = ps.length := Paired.length h
theorem PairsV.get {H : Hp} : ∀ {xs : List V} {ps : List P2} {i : Nat} {x : V}, PairsV H xs ps → xs[i]? = some x → ∃ p, ps[i]? = some p ∧ PairV H x p
  | _, _, _, _, .nil, e => by simp at e
  | _, _, 0, _, .cons r _, e => by simp at e; subst e; exact ⟨_, rfl, r⟩
  | _, _, i + 1, x, .cons _ t, e => by
    obtain ⟨u, h1, h2⟩ := PairsV.get (i := i) (x := x) t (by simpa using e)
    exact ⟨u, by simpa using h1, h2⟩
theorem PairsV.app {H : Hp} : ∀ {xs ys : List V} {ps qs : List P2}, PairsV H xs ps → PairsV H ys qs → PairsV H (xs ++ ys) (ps ++ qs)
  | _, _, _, _, .nil, s => s
  | _, _, _, _, .cons r t, s => .cons r (PairsV.app t s)
theorem PairsV.one {H : Hp} {t : Addr} {p : P2} (h : H t = some (.tup [.int p.1, .int p.2])) : PairsV H [.ref t] [p] := .cons ⟨t, rfl, h⟩ .nil
theorem PairsV.mem {H : Hp} : ∀ {xs : List V} {ps : List P2}, PairsV H xs ps → ∀ x ∈ xs, ∃ p ∈ ps, PairV H x p
  | _, _, .nil, x, h => nomatch h
  | _, _, .cons r t, x, h => by
    rcases List.mem_cons.mp h with e | e
    · rw [e]; exact ⟨_, List.mem_cons_self, r⟩
    · obtain ⟨p, m, q⟩ := PairsV.mem t x e
      exact ⟨p, List.mem_cons_of_mem _ m, q⟩
theorem TupsStay.upd {H : Hp} {a : Addr} {o : HO} (h : ∀ xs, H a ≠ some (.tup xs)) : TupsStay H (upd H a o) := fun b xs e => by
  rw [upd_ne (fun z => by subst z; exact h xs e)]
  exact e
theorem TupsStay.trans {H H1 H2 : Hp} (a : TupsStay H H1) (b : TupsStay H1 H2) : TupsStay H H2 := fun c xs e => b c xs (a c xs e)
theorem Same.new {H : Hp} {p : Addr} {o : HO} (h : H p = none) : Same H (upd H p o) := fun a u e => by rw [upd_ne (ne_of_none e h)]; exact e
theorem Same.mut {H H' : Hp} {p : Addr} {o : HO} (s : Same H H') (h : H p = none) : Same H (upd H' p o) := fun a u e => by rw [upd_ne (ne_of_none e h)]; exact s _ _ e
theorem Seqs.same {K : PySem.W.Frag} {H H' : Hp} {a : Addr} {xs : List V} (s : Same H H') (h : Seqs K H a xs) : Seqs K H' a xs := by
  rcases h with h | h
  · exact .inl (s.seq h)
  · exact .inr (SqT.ext h s)
theorem TupP.same {H H' : Hp} {a : Addr} {ps : List P2} (s : Same H H') (h : TupP H a ps) : TupP H' a ps := let ⟨xs, e, q⟩ := h; ⟨xs, s _ _ e, q.stay (Same.tups s)⟩
theorem LstP.same {H H' : Hp} {a : Addr} {ps : List P2} (s : Same H H') (h : LstP H a ps) : LstP H' a ps := let ⟨xs, e, q⟩ := h; ⟨xs, s _ _ e, q.stay (Same.tups s)⟩
/-- an instance of Spans -/
def spF (a : Addr) (n : Int) : List (Str × V) := [("pairs", .ref a), ("many_positions", .int n)]
def SpAt (C : Addr) (H : Hp) (p : Addr) (ps : List P2) : Prop := (∃ dx a, H p = some (.ins C dx (spF a (total ps))) ∧ TupP H a ps) ∧ Canon ps ∧ Oks ps
theorem SpAt.same {C : Addr} {H H' : Hp} {p : Addr} {ps : List P2} (s : Same H H') (h : SpAt C H p ps) : SpAt C H' p ps := let ⟨⟨dx, a, e, q⟩, r⟩ := h; ⟨⟨dx, a, s _ _ e, TupP.same s q⟩, r⟩
theorem pm_ : ¬ (("pairs" : Str) = "many_positions") := by decide +kernel
theorem spF_pairs (a : Addr) (n : Int) : (spF a n).lookup ("pairs" : Str) = some (.ref a) := by
  unfold spF
  rw [List.lookup_cons, beq_self_eq_true]
theorem spF_many (a : Addr) (n : Int) : (spF a n).lookup ("many_positions" : Str) = some (.int n) := by
  unfold spF
  rw [List.lookup_cons, show (("many_positions" : Str) == "pairs") = false by decide +kernel]
  dsimp only
  rw [List.lookup_cons, beq_self_eq_true]
theorem spF_put1 (a : Addr) : putF "pairs" (.ref a) [] = [(("pairs" : Str), V.ref a)] := rfl
theorem spF_put2 (a : Addr) (n : Int) : putF "many_positions" (.int n) [(("pairs" : Str), V.ref a)] = spF a n := by
  show (if ("pairs" : Str) = "many_positions" then _ else (("pairs" : Str), V.ref a) :: putF "many_positions" (.int n) []) = _
  rw [if_neg pm_]
  rfl

/-- the pair at a value -/
def keyOf (H : Hp) : V → P2
  | .ref t => match H t with
    | some (.tup [.int i, .int j]) => (i, j)
    | _ => (0, 0)
  | _ => (0, 0)
theorem keyOf_at {H : Hp} {x : V} {p : P2} (h : PairV H x p) : keyOf H x = p := by
  obtain ⟨t, rfl, e⟩ := h
  simp only [keyOf, e]
theorem PairsV.keys {H : Hp} : ∀ {xs : List V} {ps : List P2}, PairsV H xs ps → xs.map (keyOf H) = ps
  | _, _, .nil => rfl
  | _, _, .cons r t => by rw [List.map_cons, keyOf_at r, PairsV.keys t]
theorem PairsV.ofMem {H : Hp} : ∀ {ys : List V}, (∀ y ∈ ys, ∃ p, PairV H y p) → PairsV H ys (ys.map (keyOf H))
  | [], _ => .nil
  | y :: r, h => by
    obtain ⟨p, q⟩ := h y List.mem_cons_self
    refine .cons ?_ (PairsV.ofMem fun z m => h z (List.mem_cons_of_mem _ m))
    rw [keyOf_at q]
    exact q
theorem PairsV.perm {H : Hp} {xs ys : List V} {ps : List P2} (h : PairsV H xs ps) (q : ys.Perm xs) : PairsV H ys (ys.map (keyOf H)) ∧ (ys.map (keyOf H)).Perm ps := by
  refine ⟨PairsV.ofMem fun y m => ?_, ?_⟩
  · obtain ⟨p, _, r⟩ := h.mem y (q.mem_iff.mp m)
    exact ⟨p, r⟩
  · have := q.map (keyOf H)
    rw [h.keys] at this
    exact this
theorem PairsV.asks {H : Hp} {xs : List V} {ps : List P2} (h : PairsV H xs ps) : ∀ x ∈ xs, ∃ t, x = V.ref t ∧ H t = some (.tup [.int (keyOf H x).1, .int (keyOf H x).2]) := fun x m => by
  obtain ⟨p, _, r⟩ := h.mem x m
  rw [keyOf_at r]
  exact r
theorem srtd_fst {H : Hp} {ys : List V} (s : SrtO.Srtd (ltP (keyOf H)) ys) : (ys.map (keyOf H)).Pairwise (fun p q => p.1 ≤ q.1) := by
  refine List.pairwise_map.mpr (s.imp fun {x y} h => ?_)
  have := SrtO.lexB_no.mp h
  omega
theorem fold_take {α β : Type} {f : β → α → β} {s : β} {l : List α} {i : Nat} {p : α} (h : l[i]? = some p) : (l.take (i + 1)).foldl f s = f ((l.take i).foldl f s) p := by
  rw [List.take_add_one, h, List.foldl_append]
  rfl
/-- what a walk of xs gives, as long as what stood at H0 stands -/
structure Walks (J : It) (H0 : Hp) (xs : List V) : Prop where
  go : ∀ (H : Hp) (i : Nat), Same H0 H → i < xs.length → J.go i H
  stop : ∀ (H : Hp), Same H0 H → J.stop xs.length H
  yld : ∀ (H : Hp) (i : Nat) (x : V) (H' : Hp), Same H0 H → J.yld i H x H' → H' = H ∧ xs[i]? = some x
theorem Walks.tup {K : PySem.W.Frag} {H0 : Hp} {a : Addr} {xs : List V} (h : SqT K H0 a xs) : Walks (Itt K a) H0 xs :=
  ⟨fun H i s hi => ⟨xs, xs[i], SqT.ext h s, List.getElem?_eq_getElem hi⟩, fun H s => ⟨xs, SqT.ext h s, Nat.le_refl _⟩, fun H i x H' s y => ⟨y.1, y.2 xs (SqT.ext h s)⟩⟩
theorem Walks.lst {K : PySem.W.Frag} {H0 : Hp} {a : Addr} {xs : List V} (h : SqL K H0 a xs) : Walks (Itl K a) H0 xs :=
  ⟨fun H i s hi => ⟨xs, xs[i], s.seq h, List.getElem?_eq_getElem hi⟩, fun H s => ⟨xs, s.seq h, Nat.le_refl _⟩, fun H i x H' s y => ⟨y.1, y.2 xs (s.seq h)⟩⟩
/-- [f(p) for p in pairs], f of the pair's numbers alone -/
theorem lc_pairs {J : It} {H0 H : Hp} {D : Addr} {xs : List V} {ps : List P2} {v : P2 → V} {B : V → Hp → (Hp → Prop) → Prop} {Qd : Hp → Prop} (wk : Walks J H0 xs) (hp : PairsV H0 xs ps) (s : Same H0 H) (nD : H D = none) (hz : xs.length ≤ sizeLine)
    (hB : ∀ (H' : Hp) (t : Addr) (p : P2) (Nx : Hp → Prop), p ∈ ps → H' t = some (.tup [.int p.1, .int p.2]) → (∃ acc, H' D = some (.lst acc) ∧ acc.length < sizeLine ∧ Nx (upd H' D (.lst (acc ++ [v p])))) → B (.ref t) H' Nx)
    (hd : ∀ H', Same H0 H' → Same H H' → H' D = some (.lst (ps.map v)) → Qd H') :
    ∃ W : Nat → Nat → Hp → Prop, (∃ m, W 0 m (upd H D (.lst []))) ∧ ∀ i m H, W i m H →
      (J.stop i H ∧ Qd H) ∨ (J.go i H ∧ ∃ Nx : Hp → Prop, (∀ H', Nx H' → ∃ m', m' < m ∧ W (i + 1) m' H') ∧ ∀ x H', J.yld i H x H' → B x H' Nx) := by
  have l := PairsV.len hp
  refine lc_it (n := xs.length) (fun i H' => Same H0 H' ∧ Same H H' ∧ H' D = some (.lst ((ps.take i).map v))) ⟨Same.mut s (s.free nD), Same.new nD, upd_same⟩ (fun i H' hi q => wk.go _ _ q.1 hi) (fun H' q => wk.stop _ q.1) ?_ (fun H' q => hd _ q.1 q.2.1 (by have e := q.2.2; rw [l, List.take_length] at e; exact e))
  rintro i H' x H2 hi ⟨s1, s2, e⟩ y
  obtain ⟨rfl, hx⟩ := wk.yld _ _ _ _ s1 y
  obtain ⟨p, hp2, t, rfl, ht⟩ := PairsV.get (PairsV.stay (Same.tups s1) hp) hx
  refine hB _ _ _ _ (List.mem_of_getElem? hp2) ht ⟨_, e, ?_, Same.mut s1 (s.free nD), Same.mut s2 nD, ?_⟩
  · rw [List.length_map, List.length_take]
    omega
  · rw [upd_same, List.take_add_one, hp2, List.map_append]
    rfl
/-! ### the data that == looks at -/
def dP (p : P2) : PyData := .tuple [.int p.1, .int p.2]
def dT (ps : List P2) : PyData := .tuple (ps.map dP)
theorem dpAll_pairs {K : PySem.W.Frag} {H : Hp} : ∀ {xs : List V} {ps : List P2}, PairsV H xs ps → DpAll K H xs (ps.map dP)
  | _, _, .nil => .nil
  | _, _, .cons ⟨t, e, h⟩ r => by
    subst e
    exact .cons (.tup (SqT.of h) (.cons (.int _) (.cons (.int _) .nil))) (dpAll_pairs r)
theorem dp_tup {K : PySem.W.Frag} {H : Hp} {a : Addr} {ps : List P2} (h : TupP H a ps) : Dp K H (.ref a) (dT ps) := by
  obtain ⟨xs, e, q⟩ := h
  exact .tup (SqT.of e) (dpAll_pairs q)
theorem shapeAll : ∀ ps : List P2, PyData.canLayAll0 (ps.map dP) = true ∧ PyData.depthAll (ps.map dP) ≤ 1
  | [] => by
    refine ⟨by simp only [List.map_nil, PyData.canLayAll0], ?_⟩
    simp only [List.map_nil, PyData.depthAll]
    omega
  | p :: r => by
    obtain ⟨h1, h2⟩ := shapeAll r
    have e1 : PyData.canLay0 (dP p) = true := by simp only [dP, PyData.canLay0, PyData.canLayAll0, Bool.and_self]
    have e2 : PyData.depth (dP p) = 1 := by simp only [dP, PyData.depth, PyData.depthAll, Nat.max_self]
    refine ⟨?_, ?_⟩
    · rw [List.map_cons]
      simp only [PyData.canLayAll0, e1, h1, Bool.and_self]
    · rw [List.map_cons]
      simp only [PyData.depthAll, e2]
      omega
theorem canLay_dT (ps : List P2) : PyData.canLay0 (dT ps) = true := by
  simp only [dT, PyData.canLay0]
  exact (shapeAll ps).1
theorem depth_dT (ps : List P2) : PyData.depth (dT ps) ≤ 2 := by
  have := (shapeAll ps).2
  simp only [dT, PyData.depth]
  omega
theorem shaped_dT (ps : List P2) : SeqAt.shaped (dT ps) = true := by
  show (PyData.canLay0 (dT ps) && decide (PyData.depth (dT ps) ≤ 64)) = true
  have := depth_dT ps
  rw [canLay_dT, Bool.true_and]
  exact decide_eq_true (by omega)
theorem eqv_dP (p q : P2) : PyData.eqv (dP p) (dP q) = decide (p = q) := by
  obtain ⟨a, b⟩ := p
  obtain ⟨c, d⟩ := q
  simp only [dP, PyData.eqv, PyData.eqvAll, Bool.and_true]
  by_cases h1 : a = c
  · by_cases h2 : b = d
    · rw [h1, h2]
      simp
    · simp [h1, h2]
  · simp [h1]
theorem eqvAll_dP : ∀ ps qs : List P2, PyData.eqvAll (ps.map dP) (qs.map dP) = decide (ps = qs)
  | [], [] => by simp [PyData.eqvAll]
  | [], q :: r => by simp [PyData.eqvAll]
  | p :: r, [] => by simp [PyData.eqvAll]
  | p :: r, q :: l => by
    rw [List.map_cons, List.map_cons]
    simp only [PyData.eqvAll, eqv_dP, eqvAll_dP r l]
    by_cases h1 : p = q
    · by_cases h2 : r = l
      · simp [h1, h2]
      · simp [h1, h2]
    · simp [h1]
theorem eqv_dT (ps qs : List P2) : PyData.eqv (dT ps) (dT qs) = decide (ps = qs) := by
  simp only [dT, PyData.eqv]
  exact eqvAll_dP ps qs
theorem sharedF_len (ps qs : List P2) : (sharedF ps qs).length ≤ ps.length * qs.length := by
  unfold sharedF
  refine Nat.le_trans (List.length_filter_le _ _) ?_
  induction ps with
  | nil => simp
  | cons p r ih =>
    rw [List.flatMap_cons, List.length_append, List.length_map, List.length_cons, Nat.succ_mul]
    omega
theorem restF_len (ps : List P2) : (restF ps).length ≤ ps.length + 1 := by
  unfold restF
  refine Nat.le_trans (List.length_filter_le _ _) ?_
  rw [List.length_zip, List.length_cons, List.length_map]
  exact Nat.min_le_left _ _
/-! ### promises of the program's defs -/
def spInteger : Sp := fun vs H Q _ => ∃ i : Int, vs = [.int i] ∧ Q (.bl true) H
def spSpan : Sp := fun vs H Q _ => ∃ (x : V) (p : P2), vs = [x] ∧ PairV H x p ∧ Ok p ∧ Q (.bl true) H
def spUnited (K : PySem.W.Frag) : Sp := fun vs H Q _ => ∃ (a : Addr) (xs : List V) (ps : List P2), vs = [.ref a] ∧ Seqs K H a xs ∧ PairsV H xs ps ∧ Oks ps ∧ ps.length < sizeLine ∧
  ∀ (H' : Hp) (q : Addr) (u : List P2), Same H H' → TupP H' q u → Canon u → Oks u → (∀ x, covers u x ↔ covers ps x) → Q (.ref q) H'
def spShared (K : PySem.W.Frag) : Sp := fun vs H Q _ => ∃ (a b : Addr) (xs ys : List V) (ps qs : List P2), vs = [.ref a, .ref b] ∧ Seqs K H a xs ∧ Seqs K H b ys ∧ PairsV H xs ps ∧ PairsV H ys qs ∧ ps.length ≤ 1000 ∧ qs.length ≤ 1000 ∧
  ∀ (H' : Hp) (l : Addr), Same H H' → LstP H' l (sharedF ps qs) → Q (.ref l) H'
def spRest (K : PySem.W.Frag) : Sp := fun vs H Q _ => ∃ (a : Addr) (xs : List V) (ps : List P2), vs = [.ref a] ∧ SqT K H a xs ∧ PairsV H xs ps ∧ ps.length ≤ 1000 ∧
  ∀ (H' : Hp) (l : Addr), Same H H' → LstP H' l (restF ps) → Q (.ref l) H'
/-- __init__: what stood but the instance is kept -/
def spInit (C : Addr) : Sp := fun vs H Q _ => ∃ (p dx a : Addr) (xs : List V) (ps : List P2), vs = [.ref p, .ref a] ∧ H p = some (.ins C dx []) ∧ H a = some (.tup xs) ∧ PairsV H xs ps ∧ Oks ps ∧ ps.length < sizeLine ∧
  ∀ (H' : Hp) (u : List P2), (∀ b o, b ≠ p → H b = some o → H' b = some o) → SpAt C H' p u → (∀ x, covers u x ↔ covers ps x) → Q .non H'
def spAnd (C : Addr) : Sp := fun vs H Q _ => ∃ (a b : Addr) (ps qs : List P2), vs = [.ref a, .ref b] ∧ SpAt C H a ps ∧ SpAt C H b qs ∧ ps.length ≤ 1000 ∧ qs.length ≤ 1000 ∧
  ∀ (H' : Hp) (r : Addr) (u : List P2), Same H H' → SpAt C H' r u → (∀ x, covers u x ↔ covers ps x ∧ covers qs x) → Q (.ref r) H'
def spOr (C : Addr) : Sp := fun vs H Q _ => ∃ (a b : Addr) (ps qs : List P2), vs = [.ref a, .ref b] ∧ SpAt C H a ps ∧ SpAt C H b qs ∧ ps.length ≤ 1000 ∧ qs.length ≤ 1000 ∧
  ∀ (H' : Hp) (r : Addr) (u : List P2), Same H H' → SpAt C H' r u → (∀ x, covers u x ↔ covers ps x ∨ covers qs x) → Q (.ref r) H'
def spSub (C : Addr) : Sp := fun vs H Q _ => ∃ (a b : Addr) (ps qs : List P2), vs = [.ref a, .ref b] ∧ SpAt C H a ps ∧ SpAt C H b qs ∧ ps.length ≤ 1000 ∧ qs.length ≤ 999 ∧
  ∀ (H' : Hp) (r : Addr) (u : List P2), Same H H' → SpAt C H' r u → (∀ x, covers u x ↔ covers ps x ∧ ¬ covers qs x) → Q (.ref r) H'
def spLen (C : Addr) : Sp := fun vs H Q _ => ∃ (a : Addr) (ps : List P2), vs = [.ref a] ∧ SpAt C H a ps ∧ ∀ H', Same H H' → Q (.int (total ps)) H'
/-- y beside a Spans: another one, or something else -/
def EqTo (K : PySem.W.Frag) (C : Addr) (H : Hp) (ps : List P2) (y : V) (r : Bool) : Prop :=
  (∃ b qs, y = .ref b ∧ SpAt C H b qs ∧ r = decide (ps = qs)) ∨ (r = false ∧ ((∃ b xs, y = .ref b ∧ H b = some (.tup xs)) ∨ ∃ i, y = .int i))
def spEqS (K : PySem.W.Frag) (C : Addr) : Sp := fun vs H Q _ => ∃ (a : Addr) (y : V) (ps : List P2) (r : Bool), vs = [.ref a, y] ∧ SpAt C H a ps ∧ EqTo K C H ps y r ∧ Q (.bl r) H

/-! ### the class, as it may be made -/
structure SpB (P : Program) (w : World) (K : PySem.W.Frag) (mg : Str → Option Value) (base : Heap) (C fI : Addr) : Prop where
  m : Mk K C fI
  f : FnR P w K mg base CX0 3 fI (fun vs H Q E => ∃ ws rest, vs = ws ++ rest ∧ ws.length = ["self"].length ∧ rest.length ≤ sizeLine ∧ ∀ p, H p = Option.none → spInit C (ws ++ [V.ref p]) (upd H p (.tup rest)) Q E)
  g : mg "Spans" = some (.ref C)
section
variable {X : Cx} {C fI : Addr} {m : Nat} {p sp_ pos : Pos} {e e2 : Expr} {es : List Expr} {te : TE} {t : TA}
abbrev spMade (C : Addr) : Sp := fun vs H Q E => ∃ ws rest, vs = ws ++ rest ∧ ws.length = ["self"].length ∧ rest.length ≤ sizeLine ∧ ∀ p, H p = Option.none → spInit C (ws ++ [V.ref p]) (upd H p (.tup rest)) Q E
theorem pe_sp0 (S : SpB X.prog X.w X.K X.mg X.base C fI) (hr : Room m X.A) (hg : Gl X "Spans") (hk : 4 ≤ m := by decide) : PE X (.Call (.Name "Spans" p) [] [] pos) (tMakeR C (spMade C) E0 tNil) :=
  pe_makeR0 S.m S.f (hr.mono hk) hg S.g pass0
theorem pe_sp (S : SpB X.prog X.w X.K X.mg X.base C fI) (hr : Room m X.A) (hg : Gl X "Spans") (ha : PA X (e :: es) t) (hk : 4 ≤ m := by decide)
    (he : starEach (e :: es) X.env = (false, eval e X.env) :: starEach es X.env := by rfl) (hpl : (backTo pos (starEach es X.env)).any (·.1) = false := by rfl) : PE X (.Call (.Name "Spans" p) (e :: es) [] pos) (tMakeR C (spMade C) E0 t) :=
  pe_makeR S.m S.f (hr.mono hk) hg S.g pass0 ha (by decide) he hpl
theorem pe_spS1 (S : SpB X.prog X.w X.K X.mg X.base C fI) (hr : Room m X.A) (hg : Gl X "Spans") (he : PE X e te) (hk : 4 ≤ m := by decide)
    (hst : starEach [.Starred e sp_] X.env = [(true, eval e X.env)] := by rfl) : PE X (.Call (.Name "Spans" p) [.Starred e sp_] [] pos) (tMakeR C (spMade C) E0 (tStar X.K te tNil)) :=
  pe_makeS1 S.m S.f (hr.mono hk) hg S.g pass0 he (by decide) hst
theorem pe_spS2 (S : SpB X.prog X.w X.K X.mg X.base C fI) (hr : Room m X.A) (hg : Gl X "Spans") (ha : PA X (.Starred e sp_ :: e2 :: es) t) (hk : 4 ≤ m := by decide)
    (hst : ∃ b y rest, backTo pos (starEach (.Starred e sp_ :: e2 :: es) X.env) = (true, b) :: y :: rest := by exact ⟨_, _, _, rfl⟩) : PE X (.Call (.Name "Spans" p) (.Starred e sp_ :: e2 :: es) [] pos) (tMakeR C (spMade C) E0 t) :=
  pe_makeS2 S.m S.f (hr.mono hk) hg S.g pass0 ha (by decide) hst
end
/-- what a call of the class asks, and gives -/
theorem made_sp {C : Addr} {H : Hp} {vs : List V} {ps : List P2} {Q : Addr → Hp → Prop} {E : XK} (hv : PairsV H vs ps) (o : Oks ps) (hl : ps.length < sizeLine)
    (k : ∀ (H' : Hp) (x : Addr) (u : List P2), Same H H' → SpAt C H' x u → (∀ y, covers u y ↔ covers ps y) → Q x H') :
    ∀ x dx, H x = Option.none → H dx = Option.none → dx ≠ x → spMade C (V.ref x :: vs) (upd (upd H dx (.own x)) x (.ins C dx [])) (fun v H2 => v = .non ∧ Q x H2) E := by
  intro x dx nx ndx nex
  refine ⟨[.ref x], vs, rfl, rfl, Nat.le_of_lt (by rw [PairsV.len hv]; exact hl), fun p np => ?_⟩
  have npx : p ≠ x := fun z => by rw [z, upd_same] at np; cases np
  have np1 : (upd H dx (.own x)) p = none := by rw [upd_ne npx] at np; exact np
  have npd : p ≠ dx := fun z => by rw [z, upd_same] at np1; cases np1
  have np0 : H p = none := by rw [upd_ne npd] at np1; exact np1
  have s1 : Same H (upd (upd (upd H dx (.own x)) x (.ins C dx [])) p (.tup vs)) := Same.mut (Same.mut (Same.new ndx) nx) np0
  refine ⟨x, dx, p, vs, ps, rfl, by rw [upd_ne npx.symm]; exact upd_same, upd_same, PairsV.stay (Same.tups s1) hv, o, hl, fun H' u kp sp cv => ⟨rfl, k H' x u (fun b ob e => ?_) sp cv⟩⟩
  have nbx : b ≠ x := fun z => by rw [z, nx] at e; cases e
  exact kp b ob nbx (s1 b ob e)
end S1

namespace S1
open PySem PySem.Spec PyProof.Rows L2 StX M1
/-- what the top has written -/
structure Txt (K : PySem.W.Frag) (mg : Str → Option Value) (C : Addr) : Prop where
  n_int : mg "int" = none
  n_bool : mg "bool" = none
  n_tuple : mg "tuple" = none
  n_list : mg "list" = none
  n_dict : mg "dict" = none
  n_len : mg "len" = none
  n_max : mg "max" = none
  n_min : mg "min" = none
  n_sum : mg "sum" = none
  n_all : mg "all" = none
  n_abs : mg "abs" = none
  n_sorted : mg "sorted" = none
  n_range : mg "range" = none
  n_zip : mg "zip" = none
  n_isinstance : mg "isinstance" = none
  g_PAIR : ∃ t, mg "PAIR" = some (.int 2 t)
  g_MOST : ∃ t, mg "MOST" = some (.int 1000000 t)
  c_Spans : mg "Spans" = some (.ref C)
  cl : Cls K C
  nP : NoAttr K C "pairs"
  nM : NoAttr K C "many_positions"
  ha : PySem.W.findIn K (.ref C) "__class__" = some (some (.builtin "object.__class__"))
  hn : PySem.W.specialIn K (.builtin "object.__class__") "__get__" = some (some (.builtin "getset_descriptor.__get__"))
  htk : PySem.W.takesIn K (.builtin "object.__class__") = some true
  hm : PySem.W.mroIn K C (.type "object") = some true
  kS : PySem.W.kitOne K (.ref C) (.ref C) = some true
  kT : PySem.W.kitOne K (.type "tuple") (.ref C) = some false
  kI : PySem.W.kitOne K (.type "int") (.ref C) = some false
  k1 : PySem.W.kitOne K (.type "int") (.type "int") = some true
  k2 : PySem.W.kitOne K (.type "int") (.type "bool") = some false
  k3 : PySem.W.kitOne K (.type "tuple") (.type "tuple") = some true
  fS : PySem.W.notFirst K C (.ref C) = true
  fT : PySem.W.notFirst K C (.type "tuple") = true
  fI : PySem.W.notFirst K C (.type "int") = true
/-- a method of a class -/
def MethOk (P : Program) (w : World) (K : PySem.W.Frag) (mg : Str → Option Value) (base : Heap) (C : Addr) (k : Nat) (m : Str) (ps : List Str) (sp : Sp) : Prop :=
  ∃ f fd, FnOk P w K mg base CX0 k f fd ps sp ∧ Binds K fd ps [] ∧ PySem.W.findIn K (.ref C) m = some (some (.ref f)) ∧ PySem.W.isFn K (.ref f) = true
structure SpC (P : Program) (w : World) (K : PySem.W.Frag) (mg : Str → Option Value) (base : Heap) (C fI : Addr) : Prop extends SpB P w K mg base C fI where
  self1 : PySem.W.selfFirst K C = true
  and_ : MethOk P w K mg base C 5 "__and__" ["self", "other"] (spAnd C)
  or_ : MethOk P w K mg base C 5 "__or__" ["self", "other"] (spOr C)
  sub_ : MethOk P w K mg base C 5 "__sub__" ["self", "other"] (spSub C)
  len_ : MethOk P w K mg base C 1 "__len__" ["self"] (spLen C)
  eq_ : MethOk P w K mg base C 1 "__eq__" ["self", "other"] (spEqS K C)
section
variable {X : Cx} {C fI : Addr} {m : Nat}
theorem SpC.oAnd (S : SpC X.prog X.w X.K X.mg X.base C fI) (hr : Room m X.A) (h : 5 ≤ m := by decide) : OpR X (binaryOp .BitAnd) (rOwn C (spAnd C) E0) := by
  obtain ⟨f, fd, F, b, hs, hf⟩ := S.and_
  exact op_own F (hr.mono h) b pass0 S.self1 (by exact hs) hf
theorem SpC.oOr (S : SpC X.prog X.w X.K X.mg X.base C fI) (hr : Room m X.A) (h : 5 ≤ m := by decide) : OpR X (binaryOp .BitOr) (rOwn C (spOr C) E0) := by
  obtain ⟨f, fd, F, b, hs, hf⟩ := S.or_
  exact op_own F (hr.mono h) b pass0 S.self1 (by exact hs) hf
theorem SpC.oSub (S : SpC X.prog X.w X.K X.mg X.base C fI) (hr : Room m X.A) (h : 5 ≤ m := by decide) : OpR X (binaryOp .Sub) (rOwn C (spSub C) E0) := by
  obtain ⟨f, fd, F, b, hs, hf⟩ := S.sub_
  exact op_own F (hr.mono h) b pass0 S.self1 (by exact hs) hf
theorem SpC.oEq (S : SpC X.prog X.w X.K X.mg X.base C fI) (hr : Room m X.A) (h : 1 ≤ m := by decide) : OpR X (compareOp .Eq) (rOwnEq X.K C (spEqS X.K C) E0) := by
  obtain ⟨f, fd, F, b, hs, hf⟩ := S.eq_
  exact op_ownEq F (hr.mono h) b pass0 hs hf
theorem SpC.oLen (S : SpC X.prog X.w X.K X.mg X.base C fI) (hr : Room m X.A) (h : 2 ≤ m := by decide) : CallR X (.builtin "len") (rOwnLen C (spLen C) E0) := by
  obtain ⟨f, fd, F, b, hs, hf⟩ := S.len_
  exact call_ownLen F (hr.mono h) b (fun _ _ _ _ _ _ _ z => z) hs hf
end
end S1

namespace S1
open PySem PySem.Spec PyProof.Rows L2 StX M1
/-! ### the pot of the law -/
def PotAt (H : Hp) (a : Addr) (B : Int) : Prop := ∃ x y z : Int, H a = some (.lst [.int x, .int y, .int z]) ∧ 0 ≤ y ∧ y < 2305843009213693921 ∧ 0 ≤ z ∧ z ≤ B
theorem PotAt.mono {H : Hp} {a : Addr} {B C : Int} (h : PotAt H a B) (q : B ≤ C) : PotAt H a C := by
  obtain ⟨x, y, z, e, a1, a2, a3, a4⟩ := h
  exact ⟨x, y, z, e, a1, a2, a3, by omega⟩
theorem PotAt.same {H H' : Hp} {a : Addr} {B : Int} (h : PotAt H a B) (s : Same H H') : PotAt H' a B := by
  obtain ⟨x, y, z, e, r⟩ := h
  exact ⟨x, y, z, s _ _ e, r⟩
/-- all but one object are kept -/
def But (p : Addr) (H H' : Hp) : Prop := ∀ b o, b ≠ p → H b = some o → H' b = some o
theorem But.refl (p : Addr) (H : Hp) : But p H H := fun _ _ _ h => h
theorem But.trans {p : Addr} {H H1 H2 : Hp} (a : But p H H1) (b : But p H1 H2) : But p H H2 := fun c o n h => b c o n (a c o n h)
theorem Same.but {H H' : Hp} (s : Same H H') (p : Addr) : But p H H' := fun b o _ h => s b o h
theorem But.put (p : Addr) (H : Hp) (u : HO) : But p H (upd H p u) := fun b o n h => by rw [upd_ne n]; exact h
theorem But.tups {p : Addr} {H H' : Hp} (b : But p H H') {xs : List V} (hp : H p = some (.lst xs)) : TupsStay H H' := fun c ys h => b c _ (fun z => by rw [z, hp] at h; cases h) h
theorem SqL.but {K : PySem.W.Frag} {H H' : Hp} {p a : Addr} {xs : List V} (s : But p H H') (n : a ≠ p) (h : H a = some (.lst xs)) : H' a = some (.lst xs) := s _ _ n h
def spPot (K : PySem.W.Frag) : Sp := fun vs H Q _ => ∃ (a : Addr) (ns : List Int) (k : Int), vs = [.ref a, .int k] ∧ SqL K H a (ns.map V.int) ∧ 0 ≤ k ∧ k ≤ 1000 ∧ ∀ (H' : Hp) (l : Addr), H l = none → Same H H' → PotAt H' l 0 → Q (.ref l) H'
def spDraw : Sp := fun vs H Q _ => ∃ (p : Addr) (n B : Int), vs = [.ref p, .int n] ∧ PotAt H p B ∧ 1 ≤ n ∧ n < 1073741824 ∧ B ≤ 100000 ∧ ∀ (H' : Hp) (d : Int), But p H H' → PotAt H' p (B + 1) → 0 ≤ d → d < n → Q (.int d) H'
def spAny : Sp := fun vs H Q _ => ∃ (p l : Addr) (xs : List V) (B : Int), vs = [.ref p, .ref l] ∧ PotAt H p B ∧ H l = some (.lst xs) ∧ l ≠ p ∧ 1 ≤ xs.length ∧ xs.length < 1073741824 ∧ B ≤ 100000 ∧ ∀ (H' : Hp) (x : V), But p H H' → PotAt H' p (B + 1) → x ∈ xs → Q x H'
theorem fmod_in {i n : Int} (h : 1 ≤ n) : 0 ≤ i.fmod n ∧ i.fmod n < n := ⟨Int.fmod_nonneg_of_pos i (by omega), Int.fmod_lt_of_pos i (by omega)⟩
theorem atI_nat {α : Type} {xs : List α} {i : Int} (h0 : 0 ≤ i) (h1 : i < xs.length) : ∃ x, atI xs i = some x ∧ x ∈ xs := by
  have h2 : i.toNat < xs.length := by omega
  refine ⟨xs[i.toNat], ?_, List.getElem_mem h2⟩
  unfold atI ixN
  rw [if_pos h0, if_pos h1]
  show xs[i.toNat]? = _
  exact List.getElem?_eq_getElem h2
theorem tIf_any {t : TT} {ta tb : TE} {σ : L2.St} {H : Hp} {Q : VK} (P : V → Prop) (h : ∀ R : VK, (∀ v, P v → R v H) → tIf t ta tb σ H R) (k : ∀ v, P v → Q v H) : tIf t ta tb σ H Q := h Q k
theorem mod_ok {i j : Int} (h : 1 ≤ j) : (fun _ j : Int => j ≠ 0) i j := by
  show j ≠ 0
  omega
theorem big_ne : ((10 : Int) ^ (Int.toNat 60)) ^ (Int.toNat 5) ≠ 0 := by decide +kernel
theorem bit_in (b : Bool) : -(2 ^ 64) < (if b then (1 : Int) else 0) ∧ (if b then (1 : Int) else 0) < 2 ^ 64 := by cases b <;> decide
theorem prime_at {i : Int} (h0 : 0 ≤ i) (h1 : i < 5) : ∃ r : Int, atI [V.int 2147483647, V.int 2147483629, V.int 2147483587, V.int 2147483579, V.int 2147483563] i = some (.int r) ∧ 1 ≤ r ∧ r ≤ 2147483647 := by
  obtain ⟨x, e, m⟩ := atI_nat (xs := [V.int 2147483647, V.int 2147483629, V.int 2147483587, V.int 2147483579, V.int 2147483563]) h0 h1
  rcases List.mem_cons.mp m with rfl | m
  · exact ⟨_, e, by decide, by decide⟩
  rcases List.mem_cons.mp m with rfl | m
  · exact ⟨_, e, by decide, by decide⟩
  rcases List.mem_cons.mp m with rfl | m
  · exact ⟨_, e, by decide, by decide⟩
  rcases List.mem_cons.mp m with rfl | m
  · exact ⟨_, e, by decide, by decide⟩
  rcases List.mem_cons.mp m with rfl | m
  · exact ⟨_, e, by decide, by decide⟩
  cases m
theorem sq_in {z : Int} (h0 : 0 ≤ z) (h1 : z ≤ 100001) : 0 ≤ 99991 * z * z ∧ 99991 * z * z ≤ 99991 * 100001 * 100001 := by
  have a1 : 0 ≤ 99991 * z := by omega
  have a2 : 99991 * z ≤ 99991 * 100001 := by omega
  refine ⟨Int.mul_nonneg a1 h0, ?_⟩
  exact Int.le_trans (Int.mul_le_mul_of_nonneg_right a2 h0) (Int.mul_le_mul_of_nonneg_left h1 (by decide))
theorem pow_bits {y z : Int} (y0 : 0 ≤ y) (y1 : y < 2305843009213693921) (h0 : 0 ≤ z) (h1 : z ≤ 100001) : (Builtin.Int.intBits (y + 99991 * z * z + 61) : Int) * 3 ≤ 2 ^ 27 := by
  have q := sq_in h0 h1
  have e : (99991 * 100001 * 100001 : Int) = 999929998299991 := by decide
  have b : Builtin.Int.intBits (y + 99991 * z * z + 61) ≤ 64 := intBits_le_64 (by omega) (by omega)
  have c : (2 : Int) ^ 27 = 134217728 := by decide
  omega
end S1

namespace S1
open PySem PySem.Spec PyProof.Rows L2 StX M1
/-! ### dicts of ints to True -/
def addK (ks : List Int) (k : Int) : List Int := if k ∈ ks then ks else ks ++ [k]
def addAll (ks ls : List Int) : List Int := ls.foldl addK ks
theorem putK_set (ks : List Int) (k : Int) : putK (setK ks) (Sum.inl k : Key) (V.bl true) = setK (addK ks k) := by
  unfold addK
  by_cases h : k ∈ ks
  · rw [if_pos h]
    unfold putK
    have h1 : ((setK ks).any fun kv => decide (kv.1 = (Sum.inl k : Key))) = true := by
      refine List.any_eq_true.mpr ⟨(Sum.inl k, V.bl true), ?_, decide_eq_true rfl⟩
      exact List.mem_map.mpr ⟨k, h, rfl⟩
    rw [if_pos h1]
    unfold setK
    rw [List.map_map]
    refine List.map_congr_left fun x _ => ?_
    show (if (Sum.inl x : Key) = Sum.inl k then ((Sum.inl x : Key), V.bl true) else (Sum.inl x, V.bl true)) = _
    by_cases e : (Sum.inl x : Key) = Sum.inl k
    · rw [if_pos e]
    · rw [if_neg e]
  · rw [if_neg h]
    have h1 : valV (setK ks) (Sum.inl k : Key) = none := by rw [setK_val, if_neg h]
    rw [putK_new _ h1]
    unfold setK
    rw [List.map_append]
    rfl
theorem addK_mem {ks : List Int} {k x : Int} : x ∈ addK ks k ↔ x ∈ ks ∨ x = k := by
  unfold addK
  by_cases h : k ∈ ks
  · rw [if_pos h]
    exact ⟨.inl, fun z => z.elim id fun e => e ▸ h⟩
  · rw [if_neg h, List.mem_append, List.mem_singleton]
theorem addK_nodup {ks : List Int} {k : Int} (n : ks.Nodup) : (addK ks k).Nodup := by
  unfold addK
  by_cases h : k ∈ ks
  · rw [if_pos h]
    exact n
  · rw [if_neg h]
    refine List.nodup_append.mpr ⟨n, List.pairwise_singleton _ _, fun a ha b hb e => ?_⟩
    have e2 := List.mem_singleton.mp hb
    exact h (e2 ▸ e ▸ ha)
theorem addK_len {ks : List Int} {k : Int} : (addK ks k).length ≤ ks.length + 1 := by
  unfold addK
  by_cases h : k ∈ ks
  · rw [if_pos h]
    omega
  · rw [if_neg h, List.length_append]
    exact Nat.le_refl _
theorem addAll_mem : ∀ {ls ks : List Int} {x : Int}, x ∈ addAll ks ls ↔ x ∈ ks ∨ x ∈ ls
  | [], ks, x => ⟨.inl, fun h => h.elim id fun z => nomatch z⟩
  | k :: r, ks, x => by
    show x ∈ addAll (addK ks k) r ↔ _
    rw [addAll_mem, addK_mem, List.mem_cons, or_assoc]
theorem addAll_nodup : ∀ {ls ks : List Int}, ks.Nodup → (addAll ks ls).Nodup
  | [], _, n => n
  | k :: r, ks, n => addAll_nodup (ls := r) (ks := addK ks k) (addK_nodup n)
theorem addAll_len : ∀ {ls ks : List Int}, (addAll ks ls).length ≤ ks.length + ls.length
  | [], ks => Nat.le_refl _
  | k :: r, ks => by
    have h1 := addAll_len (ls := r) (ks := addK ks k)
    have h2 := addK_len (ks := ks) (k := k)
    show (addAll (addK ks k) r).length ≤ ks.length + (r.length + 1)
    omega
theorem merge_set : ∀ (ls ks : List Int), mergeK (setK ks) (setK ls) = setK (addAll ks ls)
  | [], ks => rfl
  | k :: r, ks => by
    show mergeK (putK (setK ks) (Sum.inl k) (V.bl true)) (setK r) = setK (addAll (addK ks k) r)
    rw [putK_set]
    exact merge_set r (addK ks k)
theorem setK_append (ks ls : List Int) : setK ks ++ setK ls = setK (ks ++ ls) := by
  unfold setK
  rw [List.map_append]
theorem setK_len (ks : List Int) : (setK ks).length = ks.length := List.length_map _
theorem setK_get {ks : List Int} {i : Nat} {k : Key} {v : V} (h : (setK ks)[i]? = some (k, v)) : ∃ x, ks[i]? = some x ∧ kV k = .int x ∧ x ∈ ks := by
  unfold setK at h
  rw [List.getElem?_map] at h
  obtain ⟨x, hx, e⟩ := Option.map_eq_some_iff.mp h
  cases e
  exact ⟨x, hx, rfl, List.mem_of_getElem? hx⟩
theorem nodup_perm {a b : List Int} (p : a.Perm b) (n : b.Nodup) : a.Nodup := p.nodup_iff.mpr n
/-! ### rows of pairs, split at the last -/
theorem PairsV.snoc {H : Hp} : ∀ {g : List P2} {xs : List V} {p : P2}, PairsV H xs (g ++ [p]) → ∃ gs x, xs = gs ++ [x] ∧ PairsV H gs g ∧ PairV H x p
  | [], _, p, .cons r .nil => ⟨[], _, rfl, .nil, r⟩
  | q :: g, _, p, .cons r t => by
    obtain ⟨gs, x, e, h1, h2⟩ := PairsV.snoc t
    exact ⟨_ :: gs, x, by rw [e]; rfl, .cons r h1, h2⟩
theorem ixN_last (n : Nat) : ixN (n + 1) (-1) = some n := by
  unfold ixN
  rw [if_neg (by decide), if_pos (by omega)]
  have e : (-1 + ((n + 1 : Nat) : Int)).toNat = n := by omega
  rw [e]
theorem atI_last {α : Type} (xs : List α) (x : α) : atI (xs ++ [x]) (-1) = some x := by
  unfold atI
  rw [List.length_append]
  show (ixN (xs.length + 1) (-1)).bind _ = _
  rw [ixN_last]
  show (xs ++ [x])[xs.length]? = some x
  exact List.getElem?_concat_length
theorem atI_two0 {α : Type} (x y : α) : atI [x, y] 0 = some x := rfl
theorem atI_two1 {α : Type} (x y : α) : atI [x, y] 1 = some y := rfl
def dL (ps : List P2) : PyData := .list (ps.map dP)
theorem dp_lst {K : PySem.W.Frag} {H : Hp} {a : Addr} {xs : List V} {ps : List P2} (e : H a = some (.lst xs)) (q : PairsV H xs ps) : Dp K H (.ref a) (dL ps) := .lst (SqL.of e) (dpAll_pairs q)
theorem shaped_dL (ps : List P2) : SeqAt.shaped (dL ps) = true := by
  have e1 : PyData.canLay0 (dL ps) = true := by
    simp only [dL, PyData.canLay0]
    exact (shapeAll ps).1
  have e2 : PyData.depth (dL ps) ≤ 2 := by
    have := (shapeAll ps).2
    simp only [dL, PyData.depth]
    omega
  show (PyData.canLay0 (dL ps) && decide (PyData.depth (dL ps) ≤ 64)) = true
  rw [e1, Bool.true_and]
  exact decide_eq_true (by omega)
theorem eqv_dL (ps qs : List P2) : PyData.eqv (dL ps) (dL qs) = decide (ps = qs) := by
  simp only [dL, PyData.eqv]
  exact eqvAll_dP ps qs
theorem SpAt.canon {C : Addr} {H : Hp} {a : Addr} {ps : List P2} (h : SpAt C H a ps) : Canon ps := h.2.1
theorem SpAt.oks {C : Addr} {H : Hp} {a : Addr} {ps : List P2} (h : SpAt C H a ps) : Oks ps := h.2.2
theorem SpAt.len {C : Addr} {H : Hp} {a : Addr} {ps : List P2} (h : SpAt C H a ps) : ps.length ≤ cnt ps := len_cnt h.canon h.oks
section
variable {C a b : Addr} {H : Hp} {ps qs : List P2} {Q : VK} {E : XK}
theorem own_and (h1 : SpAt C H a ps) (h2 : SpAt C H b qs) (c1 : cnt ps ≤ 999) (c2 : cnt qs ≤ 999) (k : ∀ (H' : Hp) (r : Addr) (u : List P2), Same H H' → SpAt C H' r u → (∀ x, covers u x ↔ covers ps x ∧ covers qs x) → Q (.ref r) H') : rOwn C (spAnd C) E (.ref a) (.ref b) H Q := by
  have l1 := h1.len
  have l2 := h2.len
  have h1' := h1
  have h2' := h2
  obtain ⟨⟨dx, ta, e1, _⟩, _⟩ := h1'
  obtain ⟨⟨dy, tb, e2, _⟩, _⟩ := h2'
  exact ⟨a, b, dx, dy, _, _, rfl, rfl, e1, e2, a, b, ps, qs, rfl, h1, h2, by omega, by omega, k⟩
theorem own_or (h1 : SpAt C H a ps) (h2 : SpAt C H b qs) (c1 : cnt ps ≤ 999) (c2 : cnt qs ≤ 999) (k : ∀ (H' : Hp) (r : Addr) (u : List P2), Same H H' → SpAt C H' r u → (∀ x, covers u x ↔ covers ps x ∨ covers qs x) → Q (.ref r) H') : rOwn C (spOr C) E (.ref a) (.ref b) H Q := by
  have l1 := h1.len
  have l2 := h2.len
  have h1' := h1
  have h2' := h2
  obtain ⟨⟨dx, ta, e1, _⟩, _⟩ := h1'
  obtain ⟨⟨dy, tb, e2, _⟩, _⟩ := h2'
  exact ⟨a, b, dx, dy, _, _, rfl, rfl, e1, e2, a, b, ps, qs, rfl, h1, h2, by omega, by omega, k⟩
theorem own_sub (h1 : SpAt C H a ps) (h2 : SpAt C H b qs) (c1 : cnt ps ≤ 999) (c2 : cnt qs ≤ 999) (k : ∀ (H' : Hp) (r : Addr) (u : List P2), Same H H' → SpAt C H' r u → (∀ x, covers u x ↔ covers ps x ∧ ¬ covers qs x) → Q (.ref r) H') : rOwn C (spSub C) E (.ref a) (.ref b) H Q := by
  have l1 := h1.len
  have l2 := h2.len
  have h1' := h1
  have h2' := h2
  obtain ⟨⟨dx, ta, e1, _⟩, _⟩ := h1'
  obtain ⟨⟨dy, tb, e2, _⟩, _⟩ := h2'
  exact ⟨a, b, dx, dy, _, _, rfl, rfl, e1, e2, a, b, ps, qs, rfl, h1, h2, by omega, by omega, k⟩
theorem own_eq {K : PySem.W.Frag} {mg : Str → Option Value} (T : Txt K mg C) (h1 : SpAt C H a ps) (h2 : SpAt C H b qs) (k : Q (.bl (decide (ps = qs))) H) : rOwnEq K C (spEqS K C) E (.ref a) (.ref b) H Q := by
  have h1' := h1
  have h2' := h2
  obtain ⟨⟨dx, ta, e1, _⟩, _⟩ := h1'
  obtain ⟨⟨dy, tb, e2, _⟩, _⟩ := h2'
  exact ⟨a, dx, _, .ref C, rfl, e1, .base (.ins e2 T.cl T.ha T.hn T.htk T.hm), T.fS, a, .ref b, ps, _, rfl, h1, .inl ⟨b, qs, rfl, h2, rfl⟩, k⟩
theorem own_eqT {K : PySem.W.Frag} {mg : Str → Option Value} (T : Txt K mg C) (h1 : SpAt C H a ps) (h2 : SpAt C H b qs) (hc : ∀ x, covers ps x ↔ covers qs x) (k : Q (.bl true) H) : rOwnEq K C (spEqS K C) E (.ref a) (.ref b) H Q := by
  refine own_eq T h1 h2 ?_
  rw [decide_eq_true (canon_unique h1.canon h2.canon hc)]
  exact k
theorem own_len (h1 : SpAt C H a ps) (k : ∀ H', Same H H' → Q (.int (cnt ps : Nat)) H') : rOwnLen C (spLen C) E [.ref a] H Q := by
  have h1' := h1
  obtain ⟨⟨dx, ta, e1, _⟩, _⟩ := h1'
  have e := total_cnt h1.canon h1.oks
  have z := cnt_le ps
  have z2 : (mostN : Int) < 2 ^ 63 := by decide
  refine ⟨a, dx, _, rfl, e1, a, ps, rfl, h1, fun H' s => ⟨_, rfl, ?_, ?_, ?_⟩⟩
  · omega
  · omega
  · rw [e]
    exact k H' s
theorem own_lenN {σ : L2.St} (h1 : SpAt C H a ps) (k : ∀ H', Same H H' → Q (.int (cnt ps : Nat)) H') : tNil σ H fun xs H2 => rOwnLen C (spLen C) E (.ref a :: xs) H2 Q := own_len h1 k
end
theorem PotAt.tups {H H' : Hp} {p : Addr} {B : Int} (h : PotAt H p B) (b : But p H H') : TupsStay H H' := by
  obtain ⟨x, y, z, e, _⟩ := h
  exact b.tups e
theorem But.mut {p l : Addr} {H H' : Hp} {u : HO} (b : But p H H') (h : H l = none) : But p H (upd H' l u) := fun c o n e => by
  rw [upd_ne (ne_of_none e h)]
  exact b c o n e
theorem But.free {p l : Addr} {H H' : Hp} (b : But p H H') (n : l ≠ p) (h : H' l = none) : H l = none := by
  cases e : H l with
  | none => rfl
  | some o =>
    have := b l o n e
    rw [h] at this
    cases this
theorem oks_nil : Oks [] := fun p m => absurd m List.not_mem_nil
theorem oks_app {ps qs : List P2} (a : Oks ps) (b : Oks qs) : Oks (ps ++ qs) := fun p m => (List.mem_append.mp m).elim (a p) (b p)
theorem oks_one {p : P2} (h : Ok p) : Oks [p] := fun q m => (List.mem_singleton.mp m) ▸ h
theorem mk_sp0 {C : Addr} {H : Hp} {σ : L2.St} {Q : VK} {E : XK} (k : ∀ (H' : Hp) (x : Addr) (u : List P2), Same H H' → SpAt C H' x u → (∀ y, covers u y ↔ covers [] y) → Q (.ref x) H') : tMakeR C (spMade C) E tNil σ H Q :=
  made_sp (vs := []) (ps := []) (Q := fun x H => Q (.ref x) H) .nil oks_nil (by show 0 < sizeLine; decide) k
theorem set_sp0 {C : Addr} {H : Hp} {σ : L2.St} {D : Ends} {i : Nat} {rest : TS} {E : XK} (k : ∀ (H' : Hp) (x : Addr) (u : List P2), Same H H' → SpAt C H' x u → (∀ y, covers u y ↔ covers [] y) → rest D (σ.set i (some (.ref x))) H') : tSeq (tAsg (tMakeR C (spMade C) E tNil) (gName i)) rest D σ H :=
  mk_sp0 (σ := σ) (Q := fun v H' => gName i v σ H' (rest D)) k
/-! ### promises of the law's defs -/
def spPlaces : Sp := fun vs H Q _ => ∃ (l : Addr) (ps : List P2), vs = [.ref l] ∧ LstP H l ps ∧ Oks ps ∧ (∀ p ∈ ps, p.2 - p.1 ≤ 9) ∧ ps.length ≤ 5 ∧
  ∀ (H' : Hp) (d : Addr) (ks : List Int), Same H H' → H d = none → H' d = some (.dK (setK ks)) → ks.Nodup → (∀ x, x ∈ ks ↔ covers ps x) → ks.length ≤ 45 → Q (.ref d) H'
def spCouples : Sp := fun vs H Q _ => ∃ (d : Addr) (ks : List Int), vs = [.ref d] ∧ H d = some (.dK (setK ks)) ∧ ks.Nodup ∧ (∀ x ∈ ks, 0 ≤ x ∧ x < 1000000) ∧ ks.length ≤ 1000 ∧
  ∀ (H' : Hp) (t : Addr) (u : List P2), Same H H' → TupP H' t u → Canon u → Oks u → (∀ x, covers u x ↔ x ∈ ks) → Q (.ref t) H'
def spDrawn : Sp := fun vs H Q _ => ∃ (p : Addr) (B : Int), vs = [.ref p, .int 5, .int 24] ∧ PotAt H p B ∧ B ≤ 90000 ∧
  ∀ (H' : Hp) (l : Addr) (ps : List P2), But p H H' → PotAt H' p (B + 20) → l ≠ p → H l = none → LstP H' l ps → Oks ps → (∀ q ∈ ps, q.2 - q.1 ≤ 9) → ps.length ≤ 5 → Q (.ref l) H'
def spOf (C : Addr) : Sp := fun vs H Q _ => ∃ (d : Addr) (ks : List Int), vs = [.ref d] ∧ H d = some (.dK (setK ks)) ∧ ks.Nodup ∧ (∀ x ∈ ks, 0 ≤ x ∧ x < 1000000) ∧ ks.length ≤ 100 ∧
  ∀ (H' : Hp) (a : Addr) (u : List P2), Same H H' → SpAt C H' a u → (∀ x, covers u x ↔ x ∈ ks) → Q (.ref a) H'
def spRules (C : Addr) : Sp := fun vs H Q _ => ∃ (a b c : Addr) (ps qs rs : List P2), vs = [.ref a, .ref b, .ref c] ∧ SpAt C H a ps ∧ SpAt C H b qs ∧ SpAt C H c rs ∧ cnt ps ≤ 100 ∧ cnt qs ≤ 100 ∧ cnt rs ≤ 100 ∧ ∀ H', Same H H' → Q (.bl true) H'
theorem iteNo {A B : Prop} (h : B) : if (!true) = true then A else B := iteF h
theorem test_no {A B : Prop} (h : B) : if (!true) = true then A else B := iteF h
end S1

namespace S1
open PySem PySem.Spec PyProof.Rows L2 StX M1
theorem Same.unlock {H H' : Hp} {d : Addr} {u : HO} {od : Obj} (hd : H d = some u) (s : Same (upd H d (.frz od u)) H') : Same H (upd H' d u) := fun b o e => by
  by_cases h : b = d
  · rw [h, hd] at e
    rw [h, upd_same, e]
  · rw [upd_ne h]
    refine s b o ?_
    rw [upd_ne h]
    exact e
theorem paired_app {α β : Type} {F : α → β → Prop} : ∀ {a c : List α} {b d : List β}, Paired F a b → Paired F c d → Paired F (a ++ c) (b ++ d)
  | _, _, _, _, .nil, q => q
  | _, _, _, _, .cons h t, q => .cons h (paired_app t q)
/-- [(k, True) for k in d if f(k)], d a locked dict of ints -/
theorem lc_keys {od : Obj} {d D : Addr} {H0 : Hp} {ks : List Int} {f : Int → Bool} {B : V → Hp → (Hp → Prop) → Prop} {Qd : Hp → Prop} (hH : H0 d = some (.frz od (.dK (setK ks)))) (nD : H0 D = none) (hz : ks.length ≤ sizeLine)
    (hB : ∀ (H' : Hp) (k : Int) (acc : List V) (Nx : Hp → Prop), k ∈ ks → Same H0 H' → H' D = some (.lst acc) → acc.length < sizeLine → (f k = true → ∀ r, H' r = none → Nx (upd (upd H' r (.tup [.int k, .bl true])) D (.lst (acc ++ [.ref r])))) → (f k = false → Nx H') → B (.int k) H' Nx)
    (hd : ∀ (H' : Hp) (as : List Addr), Same H0 H' → H' D = some (.lst (as.map V.ref)) → Paired (fun (p : Addr) (kv : Key × V) => H' p = some (.tup [kV kv.1, kv.2])) as (setK (ks.filter f)) → Qd H') :
    ∃ W : Nat → Nat → Hp → Prop, (∃ m, W 0 m (upd H0 D (.lst []))) ∧ ∀ i m H, W i m H →
      ((Itk d od (setK ks)).stop i H ∧ Qd H) ∨ ((Itk d od (setK ks)).go i H ∧ ∃ Nx : Hp → Prop, (∀ H', Nx H' → ∃ m', m' < m ∧ W (i + 1) m' H') ∧ ∀ x H', (Itk d od (setK ks)).yld i H x H' → B x H' Nx) := by
  refine lc_it (n := ks.length) (fun i H' => ∃ as : List Addr, Same H0 H' ∧ H' D = some (.lst (as.map V.ref)) ∧ Paired (fun (p : Addr) (kv : Key × V) => H' p = some (.tup [kV kv.1, kv.2])) as (setK ((ks.take i).filter f)) ∧ as.length ≤ i)
    ⟨[], Same.new nD, upd_same, .nil, Nat.le_refl _⟩ (fun i H' hi ⟨_, s, _⟩ => ⟨s _ _ hH, by rw [setK_len]; exact hi⟩) (fun H' ⟨_, s, _⟩ => ⟨s _ _ hH, by rw [setK_len]; exact Nat.le_refl _⟩) ?_ ?_
  · rintro i H' x H2 hi ⟨as, s, e, q, la⟩ ⟨rfl, k, v, hk, rfl⟩
    obtain ⟨y, hy, ek, my⟩ := setK_get hk
    rw [ek]
    have stp : (ks.take (i + 1)).filter f = (ks.take i).filter f ++ [y].filter f := by
      rw [List.take_add_one, hy, List.filter_append]
      rfl
    refine hB H2 y (as.map V.ref) _ my s e (by rw [List.length_map]; omega) (fun hf r nr => ?_) (fun hf => ?_)
    · have nDr : D ≠ r := ne_of_none e nr
      refine ⟨as ++ [r], Same.mut (Same.mut s (s.free nr)) nD, (by rw [upd_same, List.map_append]; rfl), ?_, by rw [List.length_append]; exact Nat.succ_le_succ la⟩
      rw [stp, List.filter_cons, if_pos hf, List.filter_nil, ← setK_append]
      have kp : TupsStay H2 (upd (upd H2 r (.tup [.int y, .bl true])) D (.lst (as.map V.ref ++ [.ref r]))) := TupsStay.trans (Same.tups (Same.new nr)) (TupsStay.upd fun z => by rw [upd_ne nDr, e]; intro w; cases w)
      refine paired_app (Paired.imp2 (fun a b h => kp _ _ h) q) (.cons ?_ .nil)
      rw [upd_ne nDr.symm, upd_same]
      rfl
    · refine ⟨as, s, e, ?_, by omega⟩
      rw [stp, List.filter_cons, if_neg (by rw [hf]; decide), List.filter_nil, List.append_nil]
      exact q
  · rintro H' ⟨as, s, e, q, la⟩
    rw [List.take_length] at q
    exact hd H' as s e q
theorem sub_len : ∀ {ks ls : List Int}, ks.Nodup → (∀ x ∈ ks, x ∈ ls) → ks.length ≤ ls.length
  | [], _, _, _ => Nat.zero_le _
  | k :: r, ls, n, h => by
    obtain ⟨n1, n2⟩ := List.nodup_cons.mp n
    have m := h k List.mem_cons_self
    have ih := sub_len (ls := ls.erase k) n2 fun x mx => (List.mem_erase_of_ne (fun e : x = k => n1 (by rw [← e]; exact mx))).mpr (h x (List.mem_cons_of_mem _ mx))
    rw [List.length_erase_of_mem m] at ih
    have p : 0 < ls.length := List.length_pos_of_mem m
    rw [List.length_cons]
    omega
theorem same_keys {ks ls : List Int} (n1 : ks.Nodup) (n2 : ls.Nodup) : (ks.length == ls.length && ks.all fun k => decide (k ∈ ls)) = true ↔ ∀ x, x ∈ ks ↔ x ∈ ls := by
  rw [Bool.and_eq_true, beq_iff_eq, List.all_eq_true]
  constructor
  · rintro ⟨e, h⟩ x
    have h : ∀ y ∈ ks, y ∈ ls := fun y m => of_decide_eq_true (h y m)
    refine ⟨h x, fun m => ?_⟩
    by_cases c : x ∈ ks
    · exact c
    · have := sub_len (ks := x :: ks) (ls := ls) (List.nodup_cons.mpr ⟨c, n1⟩) fun y my => (List.mem_cons.mp my).elim (fun z => z ▸ m) (h y)
      rw [List.length_cons] at this
      omega
  · intro h
    have a := sub_len n1 fun x m => (h x).mp m
    have b := sub_len n2 fun x m => (h x).mpr m
    exact ⟨by omega, fun x m => decide_eq_true ((h x).mp m)⟩
def dL3 (a b c : List P2) : PyData := .list [dT a, dT b, dT c]
theorem shaped_dL3 (a b c : List P2) : SeqAt.shaped (dL3 a b c) = true := by
  have h1 := depth_dT a
  have h2 := depth_dT b
  have h3 := depth_dT c
  have e1 : PyData.canLay0 (dL3 a b c) = true := by
    simp only [dL3, PyData.canLay0, PyData.canLayAll0, canLay_dT, Bool.and_self]
  have e2 : PyData.depth (dL3 a b c) ≤ 3 := by
    simp only [dL3, PyData.depth, PyData.depthAll]
    omega
  show (PyData.canLay0 (dL3 a b c) && decide (PyData.depth (dL3 a b c) ≤ 64)) = true
  rw [e1, Bool.true_and]
  exact decide_eq_true (by omega)
theorem eqv_dL3 (a b c : List P2) : PyData.eqv (dL3 a b c) (dL3 a b c) = true := by
  simp only [dL3, PyData.eqv, PyData.eqvAll, eqv_dT, decide_true, Bool.and_self]
theorem dp_L3 {K : PySem.W.Frag} {H : Hp} {p a b c : Addr} {ps qs rs : List P2} (e : H p = some (.lst [.ref a, .ref b, .ref c])) (h1 : TupP H a ps) (h2 : TupP H b qs) (h3 : TupP H c rs) : Dp K H (.ref p) (dL3 ps qs rs) :=
  .lst (SqL.of e) (.cons (dp_tup h1) (.cons (dp_tup h2) (.cons (dp_tup h3) .nil)))
theorem filter_nodup {f : Int → Bool} {ks : List Int} (n : ks.Nodup) : (ks.filter f).Nodup := List.Pairwise.filter _ n
section
variable {C a b : Addr} {H : Hp} {ps qs : List P2} {Q : VK} {E : XK} {K : PySem.W.Frag} {mg : Str → Option Value}
theorem own_eq0 (T : Txt K mg C) (h1 : SpAt C H a ps) {xs : List V} (e : H b = some (.tup xs)) (k : Q (.bl false) H) : rOwnEq K C (spEqS K C) E (.ref a) (.ref b) H Q := by
  have h1' := h1
  obtain ⟨⟨dx, ta, e1, _⟩, _⟩ := h1'
  exact ⟨a, dx, _, .type "tuple", rfl, e1, .base (.tup e), T.fT, a, .ref b, ps, false, rfl, h1, .inr ⟨rfl, .inl ⟨b, xs, rfl, e⟩⟩, k⟩
theorem own_eqI (T : Txt K mg C) (h1 : SpAt C H a ps) {i : Int} (k : Q (.bl false) H) : rOwnEq K C (spEqS K C) E (.ref a) (.int i) H Q := by
  have h1' := h1
  obtain ⟨⟨dx, ta, e1, _⟩, _⟩ := h1'
  exact ⟨a, dx, _, .type "int", rfl, e1, .base (.int i), T.fI, a, .int i, ps, false, rfl, h1, .inr ⟨rfl, .inr ⟨i, rfl⟩⟩, k⟩
end
theorem merge_nil (l : List Int) : mergeK [] (setK l) = setK (addAll [] l) := merge_set l []
theorem addAll_nil {l : List Int} {x : Int} : x ∈ addAll [] l ↔ x ∈ l := by
  rw [addAll_mem]
  exact ⟨fun h => h.elim (fun z => absurd z List.not_mem_nil) id, .inr⟩
theorem addAll_nil_len {l : List Int} : (addAll [] l).length ≤ l.length := by
  have := addAll_len (ls := l) (ks := [])
  rw [List.length_nil] at this
  omega
theorem filter_len {f : Int → Bool} {l : List Int} : (l.filter f).length ≤ l.length := List.length_filter_le _ _
theorem pair_up {H H' : Hp} {as : List Addr} {kvs : List (Key × V)} (s : TupsStay H H') (q : Paired (fun (p : Addr) (kv : Key × V) => H p = some (.tup [kV kv.1, kv.2])) as kvs) : Paired (fun (p : Addr) (kv : Key × V) => H' p = some (.tup [kV kv.1, kv.2])) as kvs :=
  Paired.imp2 (fun a b h => s _ _ h) q
theorem pair_sq {K : PySem.W.Frag} {H : Hp} {as : List Addr} {kvs : List (Key × V)} (q : Paired (fun (p : Addr) (kv : Key × V) => H p = some (.tup [kV kv.1, kv.2])) as kvs) : Paired (fun (p : Addr) (kv : Key × V) => SqT K H p [kV kv.1, kv.2]) as kvs :=
  Paired.imp2 (fun a b h => SqT.of h) q
theorem unlock_tups {H : Hp} {d : Addr} {od : Obj} {u w : HO} (h : H d = some (.frz od u)) : TupsStay H (upd H d w) := TupsStay.upd fun z => by rw [h]; intro c; cases c
def spTwo (C : Addr) : Sp := fun vs H Q _ => ∃ (a b d e : Addr) (ps qs : List P2) (ks ls : List Int), vs = [.ref a, .ref b, .ref d, .ref e] ∧ SpAt C H a ps ∧ SpAt C H b qs ∧ H d = some (.dK (setK ks)) ∧ H e = some (.dK (setK ls)) ∧ ks.Nodup ∧ ls.Nodup ∧ (∀ x, covers ps x ↔ x ∈ ks) ∧ (∀ x, covers qs x ↔ x ∈ ls) ∧ ks.length ≤ 45 ∧ ls.length ≤ 45 ∧
  ∀ H', Same H H' → Q (.bl true) H'
theorem covers_in {ps : List P2} (o : Oks ps) {x : Int} (h : covers ps x) : 0 ≤ x ∧ x < 1000000 := by
  obtain ⟨p, m, a, b⟩ := h
  obtain ⟨o1, o2, o3⟩ := o p m
  omega
def spRight : Sp := fun vs H Q _ => ∃ p : Addr, vs = [.ref p] ∧ PotAt H p 0 ∧ ∀ H', But p H H' → Q (.bl true) H'
theorem PotAt.keep {H H' : Hp} {p d : Addr} {B : Int} {o : HO} (h : PotAt H p B) (b : But p H H') (e : H d = some o) (hn : ∀ xs, o ≠ .lst xs) : H' d = some o := by
  obtain ⟨x, y, z, q, _⟩ := h
  refine b d o (fun c => ?_) e
  rw [c, q] at e
  exact hn _ (Option.some.inj e).symm
/-- a dict of the places -/
def DctP (H : Hp) (d : Addr) (ks : List Int) : Prop := H d = some (.dK (setK ks)) ∧ ks.Nodup ∧ (∀ x ∈ ks, 0 ≤ x ∧ x < 1000000) ∧ ks.length ≤ 45
theorem DctP.same {H H' : Hp} {d : Addr} {ks : List Int} (h : DctP H d ks) (s : Same H H') : DctP H' d ks := ⟨s _ _ h.1, h.2⟩
theorem DctP.but {H H' : Hp} {d p : Addr} {ks : List Int} {B : Int} (h : DctP H d ks) (q : PotAt H p B) (b : But p H H') : DctP H' d ks := ⟨q.keep b h.1 (fun xs c => by cases c), h.2⟩
theorem Paired.three {α β : Type} {F : α → β → Prop} {a : List α} {b : List β} (h : Paired F a b) (l : a.length = 3) : ∃ a1 a2 a3 b1 b2 b3, a = [a1, a2, a3] ∧ F a1 b1 ∧ F a2 b2 ∧ F a3 b3 := by
  cases h with
  | nil => cases l
  | cons h1 t =>
    cases t with
    | nil => cases l
    | cons h2 t =>
      cases t with
      | nil => cases l
      | cons h3 t =>
        cases t with
        | nil => exact ⟨_, _, _, _, _, _, rfl, h1, h2, h3⟩
        | cons h4 t => simp at l
theorem PairsV.rev {H : Hp} : ∀ {xs : List V} {ps : List P2}, PairsV H xs ps → PairsV H xs.reverse ps.reverse
  | _, _, .nil => .nil
  | _, _, .cons h t => by
    rw [List.reverse_cons, List.reverse_cons]
    exact PairsV.app (PairsV.rev t) (.cons h .nil)
theorem Same.ofBut {H H1 H2 : Hp} {l : Addr} (s : Same H H1) (n : H l = none) (b : But l H1 H2) : Same H H2 := fun c o e => b c o (fun z => by rw [z, n] at e; cases e) (s c o e)
def spLaw (K : PySem.W.Frag) : Sp := fun vs H Q _ => ∃ (a : Addr) (ns : List Int), vs = [.ref a] ∧ SqL K H a (ns.map V.int) ∧ ∀ H', Q (.bl true) H'
theorem turns (n : Int) (h : 0 ≤ n) : ∃ j : Int, (if (if n < 3 then n else 3) > 1 then (if n < 3 then n else 3) else 1) = j ∧ 1 ≤ j ∧ j ≤ 3 := by
  refine ⟨_, rfl, ?_, ?_⟩
  · split <;> omega
  · split
    · split <;> omega
    · omega
end S1

namespace S1
open PySem PySem.Spec PyProof.Rows L2 StX M1
def top (i : Nat) : Stmt := PySem.Challenge.pw_oneedition_k38_whole_rules_of_spans.main.body.getD i (.Pass ⟨0, 0, 0, 0⟩)
abbrev s_is_integer : Stmt := top 4
abbrev N_is_integer : List Str := ["value"]
theorem sc_is_integer : FnScope N_is_integer ["value"] (defScope s_is_integer) := ⟨rfl, rfl, rfl, by decide +kernel, rfl, by decide +kernel, by decide +kernel⟩
abbrev s_is_span : Stmt := top 8
abbrev N_is_span : List Str := ["value", "start", "stop"]
theorem sc_is_span : FnScope N_is_span ["value"] (defScope s_is_span) := ⟨rfl, rfl, rfl, by decide +kernel, rfl, by decide +kernel, by decide +kernel⟩
abbrev s_united : Stmt := top 9
abbrev N_united : List Str := ["pairs", "found", "first", "last", "start", "stop"]
theorem sc_united : FnScope N_united ["pairs"] (defScope s_united) := ⟨rfl, rfl, rfl, by decide +kernel, rfl, by decide +kernel, by decide +kernel⟩
abbrev s_shared : Stmt := top 10
abbrev N_shared : List Str := ["one", "other", "found", "start", "stop", "first", "last"]
theorem sc_shared : FnScope N_shared ["one", "other"] (defScope s_shared) := ⟨rfl, rfl, rfl, by decide +kernel, rfl, by decide +kernel, by decide +kernel⟩
abbrev s_rest_of : Stmt := top 11
abbrev N_rest_of : List Str := ["pairs", "starts", "start", "stop", "stops"]
theorem sc_rest_of : FnScope N_rest_of ["pairs"] (defScope s_rest_of) := ⟨rfl, rfl, rfl, by decide +kernel, rfl, by decide +kernel, by decide +kernel⟩
abbrev s_Spans_init : Stmt := inClass (top 12) 0
abbrev N_Spans_init : List Str := ["self", "pairs", "pair", "start", "stop"]
theorem sc_Spans_init : FnScope N_Spans_init ["self", "pairs"] (defScope s_Spans_init) := ⟨rfl, rfl, rfl, by decide +kernel, rfl, by decide +kernel, by decide +kernel⟩
abbrev s_Spans_and : Stmt := inClass (top 12) 1
abbrev N_Spans_and : List Str := ["self", "other", "pairs"]
theorem sc_Spans_and : FnScope N_Spans_and ["self", "other"] (defScope s_Spans_and) := ⟨rfl, rfl, rfl, by decide +kernel, rfl, by decide +kernel, by decide +kernel⟩
abbrev s_Spans_or : Stmt := inClass (top 12) 2
abbrev N_Spans_or : List Str := ["self", "other"]
theorem sc_Spans_or : FnScope N_Spans_or ["self", "other"] (defScope s_Spans_or) := ⟨rfl, rfl, rfl, by decide +kernel, rfl, by decide +kernel, by decide +kernel⟩
abbrev s_Spans_sub : Stmt := inClass (top 12) 3
abbrev N_Spans_sub : List Str := ["self", "other", "pairs"]
theorem sc_Spans_sub : FnScope N_Spans_sub ["self", "other"] (defScope s_Spans_sub) := ⟨rfl, rfl, rfl, by decide +kernel, rfl, by decide +kernel, by decide +kernel⟩
abbrev s_Spans_len : Stmt := inClass (top 12) 5
abbrev N_Spans_len : List Str := ["self"]
theorem sc_Spans_len : FnScope N_Spans_len ["self"] (defScope s_Spans_len) := ⟨rfl, rfl, rfl, by decide +kernel, rfl, by decide +kernel, by decide +kernel⟩
abbrev s_Spans_eq : Stmt := inClass (top 12) 6
abbrev N_Spans_eq : List Str := ["self", "other"]
theorem sc_Spans_eq : FnScope N_Spans_eq ["self", "other"] (defScope s_Spans_eq) := ⟨rfl, rfl, rfl, by decide +kernel, rfl, by decide +kernel, by decide +kernel⟩
abbrev s_law_pot : Stmt := top 14
abbrev N_law_pot : List Str := ["_law_script", "_law_k", "_law_cell", "_law_own"]
theorem sc_law_pot : FnScope N_law_pot ["_law_script", "_law_k"] (defScope s_law_pot) := ⟨rfl, rfl, rfl, by decide +kernel, rfl, by decide +kernel, by decide +kernel⟩
abbrev s_law_draw : Stmt := top 15
abbrev N_law_draw : List Str := ["_law_pot_here", "_law_many", "_law_digit", "_law_prime", "_law_made"]
theorem sc_law_draw : FnScope N_law_draw ["_law_pot_here", "_law_many"] (defScope s_law_draw) := ⟨rfl, rfl, rfl, by decide +kernel, rfl, by decide +kernel, by decide +kernel⟩
abbrev s_law_any : Stmt := top 16
abbrev N_law_any : List Str := ["_law_pot_here", "_law_items"]
theorem sc_law_any : FnScope N_law_any ["_law_pot_here", "_law_items"] (defScope s_law_any) := ⟨rfl, rfl, rfl, by decide +kernel, rfl, by decide +kernel, by decide +kernel⟩
abbrev s_law_places : Stmt := top 17
abbrev N_law_places : List Str := ["_law_couples_here", "_law_found", "_law_start", "_law_stop", "_law_spot"]
theorem sc_law_places : FnScope N_law_places ["_law_couples_here"] (defScope s_law_places) := ⟨rfl, rfl, rfl, by decide +kernel, rfl, by decide +kernel, by decide +kernel⟩
abbrev s_law_couples : Stmt := top 18
abbrev N_law_couples : List Str := ["_law_places_here", "_law_found", "_law_spot"]
theorem sc_law_couples : FnScope N_law_couples ["_law_places_here"] (defScope s_law_couples) := ⟨rfl, rfl, rfl, by decide +kernel, rfl, by decide +kernel, by decide +kernel⟩
abbrev s_law_drawn : Stmt := top 19
abbrev N_law_drawn : List Str := ["_law_pot_here", "_law_most", "_law_wide", "_law_base", "_law_found", "_law_turn", "_law_start"]
theorem sc_law_drawn : FnScope N_law_drawn ["_law_pot_here", "_law_most", "_law_wide"] (defScope s_law_drawn) := ⟨rfl, rfl, rfl, by decide +kernel, rfl, by decide +kernel, by decide +kernel⟩
abbrev s_law_of : Stmt := top 20
abbrev N_law_of : List Str := ["_law_places_here", "_law_found", "_law_start", "_law_stop"]
theorem sc_law_of : FnScope N_law_of ["_law_places_here"] (defScope s_law_of) := ⟨rfl, rfl, rfl, by decide +kernel, rfl, by decide +kernel, by decide +kernel⟩
abbrev s_law_two_right : Stmt := top 21
abbrev N_law_two_right : List Str := ["_law_one", "_law_other", "_law_here", "_law_there", "_law_met", "_law_spot", "_law_left", "_law_told", "_law_due"]
theorem sc_law_two_right : FnScope N_law_two_right ["_law_one", "_law_other", "_law_here", "_law_there"] (defScope s_law_two_right) := ⟨rfl, rfl, rfl, by decide +kernel, rfl, by decide +kernel, by decide +kernel⟩
abbrev s_law_rules_right : Stmt := top 22
abbrev N_law_rules_right : List Str := ["_law_one", "_law_other", "_law_third"]
theorem sc_law_rules_right : FnScope N_law_rules_right ["_law_one", "_law_other", "_law_third"] (defScope s_law_rules_right) := ⟨rfl, rfl, rfl, by decide +kernel, rfl, by decide +kernel, by decide +kernel⟩
abbrev s_law_right : Stmt := top 23
abbrev N_law_right : List Str := ["_law_pot_here", "_law_turn", "_law_here", "_law_there", "_law_third", "_law_again", "_law_one", "_law_other", "_law_last", "_law_couple"]
theorem sc_law_right : FnScope N_law_right ["_law_pot_here"] (defScope s_law_right) := ⟨rfl, rfl, rfl, by decide +kernel, rfl, by decide +kernel, by decide +kernel⟩
abbrev s_law : Stmt := top 24
abbrev N_law : List Str := ["_law_script", "_law_k"]
theorem sc_law : FnScope N_law ["_law_script"] (defScope s_law) := ⟨rfl, rfl, rfl, by decide +kernel, rfl, by decide +kernel, by decide +kernel⟩
section
variable {P : Program} {w : World} {K : PySem.W.Frag} {mg : Str → Option Value} {base : Heap} {C fI : Addr}
theorem ok_is_integer (T : Txt K mg C)    {f : Addr} {fd : FuncData} (F : FunD K "is_integer" "is_integer" (defArgs s_is_integer) (defBody s_is_integer) (defScope s_is_integer) [] [] f fd) : FnOk P w K mg base CX0 1 f fd ["value"] (spInteger) := by
  refine F.ok sc_is_integer (fun vs H Q E h => ?_) (fun cdv A outer s H vs Q E hr h => ?_)
  · obtain ⟨i, rfl, _⟩ := h
    rfl
  · have nd := sc_is_integer.nd
    have hu := hu_of hr
    refine ⟨_, PSs.nox (pss_one (ps_ret (pe_and (pe_callB call_isi (by rfl) T.n_isinstance (by decide +kernel) (pa_cons (pv 0) (pa_cons (pe_bltn (by rfl) T.n_int (by decide +kernel) (u := .type "int") (v := .ty "int") rfl) pa_nil))) (pe_one (pe_not (pe_callB call_isi (by rfl) T.n_isinstance (by decide +kernel) (pa_cons (pv 0) (pa_cons (pe_bltn (by rfl) T.n_bool (by decide +kernel) (u := .type "bool") (v := .ty "bool") rfl) pa_nil)))))))), ?_⟩
    obtain ⟨i, rfl, q⟩ := h
    exact ⟨_, rfl, _, _, _, _, true, rfl, .ty _, .base (.int i), T.k1, true, rfl, iteT ⟨_, rfl, _, _, _, _, false, rfl, .ty _, .base (.int i), T.k2, false, rfl, q⟩⟩
theorem ok_is_span (T : Txt K mg C)  {f_is_integer : Addr} {fd_is_integer : FuncData} (D_is_integer : Cal P w K mg base 1 "is_integer" ["value"] (spInteger) f_is_integer fd_is_integer)  {f : Addr} {fd : FuncData} (F : FunD K "is_span" "is_span" (defArgs s_is_span) (defBody s_is_span) (defScope s_is_span) [] [] f fd) : FnOk P w K mg base CX0 2 f fd ["value"] (spSpan) := by
  refine F.ok sc_is_span (fun vs H Q E h => ?_) (fun cdv A outer s H vs Q E hr h => ?_)
  · obtain ⟨x, p, rfl, _⟩ := h
    rfl
  · have nd := sc_is_span.nd
    have hu := hu_of hr
    refine ⟨_, PSs.nox (pss_cons (ps_if (PW.pt (pw_or (pt_not (pt_val (pe_callB call_isi (by rfl) T.n_isinstance (by decide +kernel) (pa_cons (pv 0) (pa_cons (pe_bltn (by rfl) T.n_tuple (by decide +kernel) (u := .type "tuple") (v := .ty "tuple") rfl) pa_nil))))) (pw_or1 (pt_cmpR op_ne (pe_callB call_len (by rfl) T.n_len (by decide +kernel) (pa_cons (pv 0) pa_nil)) (pe_gi rfl T.g_PAIR) (nomark _))))) (pss_one (ps_ret pe_bl)) pss_nil)
      (pss_cons (ps_asg (pv 0) (pg_tup rfl (pgs_cons (pg_name (i := 1) nd rfl (by first | exact Or.inl rfl | exact Or.inr rfl)) (pgs_cons (pg_name (i := 2) nd rfl (by first | exact Or.inl rfl | exact Or.inr rfl)) pgs_nil))))
      (pss_one (ps_ret (pe_and (pe_c D_is_integer hr rfl (pa_cons (pv 1) pa_nil)) (pe_and (pe_c D_is_integer hr rfl (pa_cons (pv 2) pa_nil)) (pe_one (pe_chain3 op_le op_lt op_le pe_int (pv 1) (pv 2) (pe_gi rfl T.g_MOST))))))))), ?_⟩
    obtain ⟨x, ⟨a, b⟩, rfl, ⟨t, rfl, ht⟩, ⟨o1, o2, o3⟩, q⟩ := h
    refine ⟨_, rfl, _, _, _, _, true, rfl, .ty _, .base (.tup ht), T.k3, true, rfl, iteF ⟨_, rfl, _, 2, rfl, .inr ⟨_, SqT.of ht, rfl⟩, rfl, _, rfl, ?_⟩⟩
    refine iteNS rfl ⟨_, rfl, t, _, rfl, SqT.of ht, rfl, _, _, rfl, _, _, rfl, rfl, ?_⟩
    refine ⟨_, rfl, _, rfl, true, rfl, iteT ⟨_, rfl, _, rfl, true, rfl, iteT ?_⟩⟩
    refine ⟨_, rfl, _, _, rfl, rfl, true, congrArg V.bl (decide_eq_true o1), iteT ⟨_, rfl, _, _, rfl, rfl, true, congrArg V.bl (decide_eq_true o2), iteT ⟨_, _, rfl, rfl, ?_⟩⟩⟩
    show Q (.bl (decide (b ≤ 1000000))) H
    rw [decide_eq_true o3]
    exact q
theorem ok_united (T : Txt K mg C)    {f : Addr} {fd : FuncData} (F : FunD K "united" "united" (defArgs s_united) (defBody s_united) (defScope s_united) [] [] f fd) : FnOk P w K mg base CX0 1 f fd ["pairs"] (spUnited K) := by
  refine F.ok sc_united (fun vs H Q E h => ?_) (fun cdv A outer s H vs Q E hr h => ?_)
  · obtain ⟨a, xs, ps, rfl, _⟩ := h
    rfl
  · have nd := sc_united.nd
    have hu := hu_of hr
    refine ⟨_, PSs.nox (pss_cons (ps_set (i := 1) nd rfl (by first | exact Or.inl rfl | exact Or.inr rfl) (pe_lst pa_nil))
      (pss_cons (ps_asg (pe_tup (pa_cons pe_int (pa_cons pe_int pa_nil))) (pg_tup rfl (pgs_cons (pg_name (i := 2) nd rfl (by first | exact Or.inl rfl | exact Or.inr rfl)) (pgs_cons (pg_name (i := 3) nd rfl (by first | exact Or.inl rfl | exact Or.inr rfl)) pgs_nil))))
      (pss_cons (ps_for PassesOwn.never rfl (pi_list (pe_callB cr_sortedPs (by rfl) T.n_sorted (by decide +kernel) (pa_cons (pv 0) pa_nil))) (pg_tup rfl (pgs_cons (pg_name (i := 4) nd rfl (by first | exact Or.inl rfl | exact Or.inr rfl)) (pgs_cons (pg_name (i := 5) nd rfl (by first | exact Or.inl rfl | exact Or.inr rfl)) pgs_nil))) (pss_one (ps_if (pt_cmpR op_gt (pv 4) (pv 3) (nomark _)) (pss_cons (ps_if (pt_cmpR op_lt (pv 2) (pv 3) (nomark _)) (pss_one (ps_expr (pe_bm PySem.F.plainAttrs_list PySem.F.slot_list_append PySem.F.type_list_append mt_append (pv 1) (pa_cons (pe_tup (pa_cons (pv 2) (pa_cons (pv 3) pa_nil))) pa_nil)))) pss_nil)
      (pss_one (ps_par (i := 2) (j := 3) (by rfl) nd rfl rfl (by decide) rfl rfl (pa_cons (pv 4) (pa_cons (pv 5) pa_nil)) (by rfl)))) (pss_one (ps_set (i := 3) nd rfl (by first | exact Or.inl rfl | exact Or.inr rfl) (pe_callB (call_max2 rfl) (by rfl) T.n_max (by decide +kernel) (pa_cons (pv 3) (pa_cons (pv 5) pa_nil))))))))
      (pss_cons (ps_if (pt_cmpR op_lt (pv 2) (pv 3) (nomark _)) (pss_one (ps_expr (pe_bm PySem.F.plainAttrs_list PySem.F.slot_list_append PySem.F.type_list_append mt_append (pv 1) (pa_cons (pe_tup (pa_cons (pv 2) (pa_cons (pv 3) pa_nil))) pa_nil)))) pss_nil)
      (pss_one (ps_ret (pe_tupleOf (by rfl) T.n_tuple (pv 1)))))))), ?_⟩
    obtain ⟨a, xs, ps, rfl, hs, hp, o, hz, k⟩ := h
    refine ⟨Nat.zero_le _, fun l nl => ?_⟩
    refine ⟨by decide, fun t0 n0 => ⟨t0, _, rfl, SqT.of upd_same, rfl, _, _, rfl, _, _, rfl, rfl, ?_⟩⟩
    have n0' : H t0 = none := by
      have q : t0 ≠ l := fun z => by rw [z, upd_same] at n0; cases n0
      rw [upd_ne q] at n0
      exact n0
    have lt0 : l ≠ t0 := fun z => by rw [← z, upd_same] at n0; cases n0
    have s1 : Same H (upd (upd H l (.lst [])) t0 (.tup [.int 0, .int 0])) := Same.mut (Same.new nl) n0'
    generalize hH2 : upd (upd H l (.lst [])) t0 (.tup [.int 0, .int 0]) = H2 at s1
    have hl2 : H2 l = some (.lst []) := by rw [← hH2, upd_ne lt0, upd_same]
    have hp2 := PairsV.stay (Same.tups s1) hp
    refine ⟨_, rfl, a, xs, keyOf H2, rfl, hs.same s1, PairsV.asks hp2, fun ys q srt stb nq => ?_⟩
    obtain ⟨hy, hperm⟩ := PairsV.perm hp2 stb.perm
    have w := srtd_fst srt
    generalize hls : ys.map (keyOf H2) = ls at hy hperm w
    have ol : Oks ls := fun p m => o p (hperm.mem_iff.mp m)
    have cl : ∀ x, covers ls x ↔ covers ps x := fun x => covers_perm hperm
    have nqH : H q = none := s1.free nq
    have nlq : l ≠ q := ne_of_none hl2 nq
    have s2 : Same H (upd H2 q (.lst ys)) := Same.mut s1 nqH
    have hy3 : PairsV (upd H2 q (.lst ys)) ys ls := PairsV.stay (Same.tups (Same.new nq)) hy
    refine ⟨q, rfl, ⟨_, SqL.of upd_same⟩, for_list (K := K) (a := q) (xs := ys) (fun i σ H' => ∃ (fs : List V) (v4 v5 : Option V), σ = [some (.ref a), some (.ref l), some (.int ((ls.take i).foldl unStep ⟨[], 0, 0⟩).first), some (.int ((ls.take i).foldl unStep ⟨[], 0, 0⟩).last), v4, v5] ∧ Same H H' ∧ H' q = some (.lst ys) ∧ PairsV H' ys ls ∧ H' l = some (.lst fs) ∧ PairsV H' fs ((ls.take i).foldl unStep ⟨[], 0, 0⟩).found ∧ fs.length ≤ i)
      ⟨[], none, none, rfl, s2, upd_same, hy3, (by rw [upd_ne nlq]; exact hl2), .nil, Nat.le_refl _⟩ (fun i σ H' _ ⟨_, _, _, _, _, e, _⟩ => SqL.of e) ?_ ?_⟩
    · rintro i x σ H' hi ⟨fs, v4, v5, rfl, s3, e3, y3, el, hf, lf⟩
      obtain ⟨⟨b, c⟩, hb, t, rfl, ht⟩ := PairsV.get y3 hi
      have stp := fold_take (f := unStep) (s := ⟨[], 0, 0⟩) hb
      have hlen : ys.length < sizeLine := by
        rw [stb.perm.length_eq, PairsV.len hp]
        exact hz
      have hi' : i < ys.length := (List.getElem?_eq_some_iff.mp hi).1
      generalize (ls.take i).foldl unStep ⟨[], 0, 0⟩ = st at stp hf
      refine ⟨t, _, rfl, SqT.of ht, rfl, _, _, rfl, _, _, rfl, rfl, ?_⟩
      refine ⟨_, rfl, _, rfl, _, _, rfl, rfl, _, rfl, ite2 (fun h1 => ?_) (fun h1 => ?_)⟩
      · have h1 : st.last < b := of_decide_eq_true h1
        have e1 : unStep st (b, c) = ⟨put st.found st.first st.last, b, c⟩ := if_pos h1
        refine ⟨_, rfl, _, rfl, _, _, rfl, rfl, _, rfl, ite2 (fun h2 => ?_) (fun h2 => ?_)⟩
        · have h2 : st.first < st.last := of_decide_eq_true h2
          refine ⟨_, rfl, .inl ⟨rfl, _, SqL.of el⟩, _, rfl, _, rfl, (by show 2 ≤ sizeLine; decide), fun t1 m1 => ?_⟩
          have l1 : l ≠ t1 := ne_of_none el m1
          have q1 : q ≠ t1 := ne_of_none e3 m1
          refine ⟨l, fs, _, rfl, rfl, (by rw [upd_ne l1]; exact el), by omega, ?_⟩
          refine ⟨_, rfl, _, rfl, _, _, rfl, fs ++ [.ref t1], _, _, (by rw [stp, e1]; rfl), ?_, ?_, ?_, upd_same, ?_, ?_⟩
          · exact Same.mut (Same.mut s3 (s3.free m1)) nl
          · rw [upd_ne nlq.symm, upd_ne q1]; exact e3
          · exact PairsV.stay (TupsStay.trans (Same.tups (Same.new m1)) (TupsStay.upd fun z => by rw [upd_ne l1, el]; intro w; cases w)) y3
          · rw [stp, e1]
            show PairsV _ _ (put st.found st.first st.last)
            unfold put
            rw [if_pos h2]
            refine PairsV.app (PairsV.stay (TupsStay.trans (Same.tups (Same.new m1)) (TupsStay.upd fun z => by rw [upd_ne l1, el]; intro w; cases w)) hf) (PairsV.one ?_)
            rw [upd_ne l1.symm, upd_same]
          · rw [List.length_append]; show _ + 1 ≤ _; omega
        · have h2 : ¬ st.first < st.last := fun z => h2 (decide_eq_true z)
          refine ⟨_, rfl, _, rfl, _, _, rfl, fs, _, _, (by rw [stp, e1]; rfl), s3, e3, y3, el, ?_, by omega⟩
          rw [stp, e1]
          show PairsV _ _ (put st.found st.first st.last)
          unfold put
          rw [if_neg h2]
          exact hf
      · have h1 : ¬ st.last < b := fun z => h1 (decide_eq_true z)
        have e1 : unStep st (b, c) = ⟨st.found, st.first, if c > st.last then c else st.last⟩ := if_neg h1
        refine ⟨_, rfl, _, rfl, _, _, rfl, fs, _, _, (by rw [stp, e1]; rfl), s3, e3, y3, el, ?_, by omega⟩
        rw [stp, e1]
        exact hf
    · rintro σ H' ⟨fs, v4, v5, rfl, s3, e3, y3, el, hf, lf⟩
      have hll : ys.length = ls.length := PairsV.len hy
      rw [hll, List.take_length] at hf ⊢
      obtain ⟨r1, r2, r3⟩ := unF_ok ol w
      unfold unF unEnd at r1 r2 r3
      generalize ls.foldl unStep ⟨[], 0, 0⟩ = st at hf r1 r2 r3
      refine ⟨_, rfl, _, rfl, _, _, rfl, rfl, _, rfl, ite2 (fun h2 => ?_) (fun h2 => ?_)⟩
      · have h2 : st.first < st.last := of_decide_eq_true h2
        refine ⟨_, rfl, .inl ⟨rfl, _, SqL.of el⟩, _, rfl, _, rfl, (by show 2 ≤ sizeLine; decide), fun t1 m1 => ?_⟩
        have l1 : l ≠ t1 := ne_of_none el m1
        refine ⟨l, fs, _, rfl, rfl, (by rw [upd_ne l1]; exact el), ?_, ?_⟩
        · rw [stb.perm.length_eq, PairsV.len hp] at lf
          omega
        · refine ⟨_, rfl, .inl ⟨l, _, rfl, SqL.of upd_same, fun q2 nq2 => ?_⟩⟩
          have s5 : Same H (upd (upd H' t1 (.tup [.int st.first, .int st.last])) l (.lst (fs ++ [.ref t1]))) := Same.mut (Same.mut s3 (s3.free m1)) nl
          refine k _ q2 (put st.found st.first st.last) (Same.mut s5 (s5.free nq2)) ⟨_, upd_same, ?_⟩ r1 r2 (fun x => (r3 x).trans (cl x))
          have z5 : PairsV (upd (upd H' t1 (.tup [.int st.first, .int st.last])) l (.lst (fs ++ [.ref t1]))) (fs ++ [.ref t1]) (st.found ++ [(st.first, st.last)]) := by
            refine PairsV.app (PairsV.stay (TupsStay.trans (Same.tups (Same.new m1)) (TupsStay.upd fun z => by rw [upd_ne l1, el]; intro w; cases w)) hf) (PairsV.one ?_)
            rw [upd_ne l1.symm, upd_same]
          unfold put
          rw [if_pos h2]
          exact PairsV.stay (Same.tups (Same.new nq2)) z5
      · have h2 : ¬ st.first < st.last := fun z => h2 (decide_eq_true z)
        refine ⟨_, rfl, .inl ⟨l, _, rfl, SqL.of el, fun q2 nq2 => ?_⟩⟩
        refine k _ q2 (put st.found st.first st.last) (Same.mut s3 (s3.free nq2)) ⟨_, upd_same, ?_⟩ r1 r2 (fun x => (r3 x).trans (cl x))
        unfold put
        rw [if_neg h2]
        exact PairsV.stay (Same.tups (Same.new nq2)) hf
theorem ok_shared (T : Txt K mg C)    {f : Addr} {fd : FuncData} (F : FunD K "shared" "shared" (defArgs s_shared) (defBody s_shared) (defScope s_shared) [] [] f fd) : FnOk P w K mg base CX0 1 f fd ["one", "other"] (spShared K) := by
  refine F.ok sc_shared (fun vs H Q E h => ?_) (fun cdv A outer s H vs Q E hr h => ?_)
  · obtain ⟨a, b, xs, ys, ps, qs, rfl, _⟩ := h
    rfl
  · have nd := sc_shared.nd
    have hu := hu_of hr
    refine ⟨_, PSs.nox (pss_cons (ps_setLc2 (i := 2) (wi1 := iSeq K (tVar 1)) (own := [("start", 3), ("stop", 4), ("first", 5), ("last", 6)]) (vs1 := [5, 6]) (g := (gTup K 2 (gCons (gName 3) (gCons (gName 4) gNil)))) (g1 := (gTup K 2 (gCons (gName 5) (gCons (gName 6) gNil)))) (tt := tYes) (tt1 := tYes) rfl nd rfl rfl (sw_true rfl rfl rfl (by decide +kernel)) (pi_seq (pv 0)) (blkOk_by (N := N_shared) (sc := defScope s_shared) (own := [("start", 3), ("stop", 4), ("first", 5), ("last", 6)]) (by decide +kernel)) (by decide) (fun _ _ _ _ _ => (pg_tup rfl (pgs_cons (pg_name (i := 3) nd rfl (by first | exact Or.inl rfl | exact Or.inr rfl)) (pgs_cons (pg_name (i := 4) nd rfl (by first | exact Or.inl rfl | exact Or.inr rfl)) pgs_nil)))) (fun _ _ _ _ _ => pts_nil) (fun _ _ _ _ _ => (pi_seq (pv 1))) (fun _ _ _ _ _ => (pg_tup rfl (pgs_cons (pg_name (i := 5) nd rfl (by first | exact Or.inl rfl | exact Or.inr rfl)) (pgs_cons (pg_name (i := 6) nd rfl (by first | exact Or.inl rfl | exact Or.inr rfl)) pgs_nil)))) (fun _ _ _ _ _ => pts_nil) (fun _ _ _ _ _ => (pe_tup (pa_cons (pe_callB (call_max2 rfl) (by rfl) T.n_max (by decide +kernel) (pa_cons (pv 3) (pa_cons (pv 5) pa_nil))) (pa_cons (pe_callB (call_min2 rfl) (by rfl) T.n_min (by decide +kernel) (pa_cons (pv 4) (pa_cons (pv 6) pa_nil))) pa_nil)))))
      (pss_one (ps_ret (pe_lc (own := [("start", 3), ("stop", 4)]) (g := (gTup K 2 (gCons (gName 3) (gCons (gName 4) gNil)))) rfl nd (pi_list (pv 2)) (blkOk_by (N := N_shared) (sc := defScope s_shared) (own := [("start", 3), ("stop", 4)]) (by decide +kernel)) (fun _ _ _ _ _ => (pg_tup rfl (pgs_cons (pg_name (i := 3) nd rfl (by first | exact Or.inl rfl | exact Or.inr rfl)) (pgs_cons (pg_name (i := 4) nd rfl (by first | exact Or.inl rfl | exact Or.inr rfl)) pgs_nil)))) (fun _ _ _ _ _ => pts_one (pt_cmpR op_lt (pv 3) (pv 4) (nomark _))) (fun _ _ _ _ _ => (pe_tup (pa_cons (pv 3) (pa_cons (pv 4) pa_nil)))))))), ?_⟩
    obtain ⟨a, b, xs, ys, ps, qs, rfl, ha, hb, hx, hy, lp, lq, k⟩ := h
    have lxp := PairsV.len hx
    have lyq := PairsV.len hy
    have hz0 : 1000000 + 1000 < sizeLine := by decide
    unfold tSeq tAsg tLc2
    refine iSeq_var rfl ha (Same.refl H) fun J go st yl => ?_
    intro D nD
    refine lc_it (n := xs.length) (fun i H' => ∃ acc, Same H H' ∧ H' D = some (.lst acc) ∧ PairsV H' acc ((ps.take i).flatMap fun p => qs.map (meet p)) ∧ acc.length = i * qs.length)
      ⟨[], Same.new nD, upd_same, .nil, by rw [Nat.zero_mul]; rfl⟩ (fun i H' hi ⟨_, s, _⟩ => go _ _ s hi) (fun H' ⟨_, s, _⟩ => st _ s) ?_ ?_
    · rintro i H' x H'' hi ⟨acc, s, hD, hacc, hl⟩ y
      obtain ⟨rfl, hxi⟩ := yl _ _ _ _ s y
      obtain ⟨p, hp, t, rfl, ht⟩ := PairsV.get (PairsV.stay (Same.tups s) hx) hxi
      have hfl : i * qs.length ≤ 1000 * 1000 := Nat.mul_le_mul (by omega) lq
      refine ⟨t, _, rfl, SqT.of ht, rfl, _, _, rfl, _, _, rfl, rfl, rfl, yesT ?_⟩
      refine iSeq_var rfl hb s fun J2 go2 st2 yl2 => ?_
      refine lc_it (n := ys.length) (fun j H3 => ∃ acc, Same H H3 ∧ H3 D = some (.lst acc) ∧ PairsV H3 acc (((ps.take i).flatMap fun p => qs.map (meet p)) ++ (qs.take j).map (meet p)) ∧ acc.length = i * qs.length + j)
        ⟨acc, s, hD, (by rw [List.take_zero, List.map_nil, List.append_nil]; exact hacc), hl⟩ (fun j H' hj ⟨_, s, _⟩ => go2 _ _ s hj) (fun H' ⟨_, s, _⟩ => st2 _ s) ?_ ?_
      · rintro j H' y H3 hj ⟨acc, s2, hD, hacc, hl⟩ yy
        obtain ⟨rfl, hyj⟩ := yl2 _ _ _ _ s2 yy
        obtain ⟨q, hq, t2, rfl, ht2⟩ := PairsV.get (PairsV.stay (Same.tups s2) hy) hyj
        refine ⟨t2, _, rfl, SqT.of ht2, rfl, _, _, rfl, _, _, rfl, rfl, rfl, yesT ?_⟩
        refine ⟨_, rfl, _, rfl, _, _, rfl, _, rfl, _, rfl, _, _, rfl, (by show 2 ≤ sizeLine; decide), fun r nr => ?_⟩
        have nDr : D ≠ r := ne_of_none hD nr
        refine ⟨acc, (by rw [upd_ne nDr]; exact hD), by omega, acc ++ [.ref r], Same.mut (Same.mut s2 (s2.free nr)) nD, upd_same, ?_, by rw [List.length_append, hl]; show _ + 1 = _; omega⟩
        rw [List.take_add_one, hq, List.map_append, ← List.append_assoc]
        refine PairsV.app (PairsV.stay (TupsStay.trans (Same.tups (Same.new nr)) (TupsStay.upd fun z => by rw [upd_ne nDr, hD]; intro w; cases w)) hacc) (PairsV.one ?_)
        rw [upd_ne nDr.symm, upd_same]
        rfl
      · rintro H3 ⟨acc, s2, hD, hacc, hl⟩
        refine ⟨acc, s2, hD, ?_, by rw [hl, Nat.succ_mul, lyq]⟩
        rw [List.take_add_one, hp, List.flatMap_append]
        rw [lyq, List.take_length] at hacc
        show PairsV H3 acc (_ ++ (_ ++ []))
        rw [List.append_nil]
        exact hacc
    · rintro H1 ⟨acc, s, hD, hacc, hl⟩
      rw [lxp, List.take_length] at hacc
      have hfl : xs.length * qs.length ≤ 1000 * 1000 := Nat.mul_le_mul (by omega) lq
      refine ⟨_, rfl, D, rfl, ⟨_, SqL.of hD⟩, ?_⟩
      intro L nL
      have nDL : D ≠ L := ne_of_none hD nL
      generalize hall : (ps.flatMap fun p => qs.map (meet p)) = all at hacc
      refine lc_it (n := acc.length) (fun i H' => ∃ acc2, Same H H' ∧ H' D = some (.lst acc) ∧ PairsV H' acc all ∧ H' L = some (.lst acc2) ∧ PairsV H' acc2 ((all.take i).filter fun p => decide (p.1 < p.2)) ∧ acc2.length ≤ i)
        ⟨[], Same.mut s (s.free nL), (by rw [upd_ne nDL]; exact hD), PairsV.stay (Same.tups (Same.new nL)) hacc, upd_same, .nil, Nat.le_refl _⟩ (fun i H' hi ⟨_, _, e, _⟩ => ⟨acc, acc[i], SqL.of e, List.getElem?_eq_getElem hi⟩) (fun H' ⟨_, _, e, _⟩ => ⟨acc, SqL.of e, Nat.le_refl _⟩) ?_ ?_
      · rintro i H' x H'' hi ⟨acc2, s2, e2, ha2, hL, hac, hl2⟩ y
        obtain ⟨rfl, hxi⟩ : H'' = H' ∧ acc[i]? = some x := ⟨y.1, y.2 _ (SqL.of e2)⟩
        obtain ⟨p, hp, t, rfl, ht⟩ := PairsV.get ha2 hxi
        refine ⟨t, _, rfl, SqT.of ht, rfl, _, _, rfl, _, _, rfl, rfl, rfl, ?_⟩
        refine ⟨_, rfl, _, rfl, _, _, rfl, rfl, _, rfl, ?_⟩
        have stp : (all.take (i + 1)).filter (fun p => decide (p.1 < p.2)) = (all.take i).filter (fun p => decide (p.1 < p.2)) ++ [p].filter fun p => decide (p.1 < p.2) := by
          rw [List.take_add_one, hp, List.filter_append]
          rfl
        refine ite2 (fun h1 => ?_) (fun h1 => ?_)
        · have h1 : p.1 < p.2 := of_decide_eq_true h1
          refine ⟨_, rfl, _, rfl, (by show 2 ≤ sizeLine; decide), fun r nr => ?_⟩
          have nDr : D ≠ r := ne_of_none e2 nr
          have nLr : L ≠ r := ne_of_none hL nr
          have lall : acc.length = all.length := PairsV.len ha2
          have li : i < acc.length := hi
          have hl9 : acc.length ≤ 1000 * 1000 := by
            omega
          have kp : TupsStay H'' (upd (upd H'' r (.tup [.int p.1, .int p.2])) L (.lst (acc2 ++ [.ref r]))) := TupsStay.trans (Same.tups (Same.new nr)) (TupsStay.upd fun z => by rw [upd_ne nLr, hL]; intro w; cases w)
          refine ⟨acc2, (by rw [upd_ne nLr]; exact hL), by omega, acc2 ++ [.ref r], Same.mut (Same.mut s2 (s2.free nr)) (s.free nL), ?_, PairsV.stay kp ha2, upd_same, ?_, by rw [List.length_append]; show _ + 1 ≤ _; omega⟩
          · rw [upd_ne nDL, upd_ne nDr]
            exact e2
          · rw [stp, List.filter_cons, if_pos (decide_eq_true h1), List.filter_nil]
            refine PairsV.app (PairsV.stay kp hac) (PairsV.one ?_)
            rw [upd_ne nLr.symm, upd_same]
        · have h1 : ¬ p.1 < p.2 := fun z => h1 (decide_eq_true z)
          refine ⟨acc2, s2, e2, ha2, hL, ?_, by omega⟩
          rw [stp, List.filter_cons, if_neg (fun z => h1 (of_decide_eq_true z)), List.filter_nil, List.append_nil]
          exact hac
      · rintro H2 ⟨acc2, s2, e2, ha2, hL, hac, hl2⟩
        refine k _ L s2 ⟨_, hL, ?_⟩
        have : acc.length = all.length := PairsV.len ha2
        rw [this, List.take_length] at hac
        unfold sharedF
        rw [hall]
        exact hac
theorem ok_rest_of (T : Txt K mg C)    {f : Addr} {fd : FuncData} (F : FunD K "rest_of" "rest_of" (defArgs s_rest_of) (defBody s_rest_of) (defScope s_rest_of) [] [] f fd) : FnOk P w K mg base CX0 1 f fd ["pairs"] (spRest K) := by
  refine F.ok sc_rest_of (fun vs H Q E h => ?_) (fun cdv A outer s H vs Q E hr h => ?_)
  · obtain ⟨a, xs, ps, rfl, _⟩ := h
    rfl
  · have nd := sc_rest_of.nd
    have hu := hu_of hr
    refine ⟨_, PSs.nox (pss_cons (ps_set (i := 1) nd rfl (by first | exact Or.inl rfl | exact Or.inr rfl) (pe_op op_cat (pe_lst (pa_cons pe_int pa_nil)) (pe_lc (own := [("start", 2), ("stop", 3)]) (g := (gTup K 2 (gCons (gName 2) (gCons (gName 3) gNil)))) (tt := tYes) rfl nd (pi_tup (pv 0)) (blkOk_by (N := N_rest_of) (sc := defScope s_rest_of) (own := [("start", 2), ("stop", 3)]) (by decide +kernel)) (fun _ _ _ _ _ => (pg_tup rfl (pgs_cons (pg_name (i := 2) nd rfl (by first | exact Or.inl rfl | exact Or.inr rfl)) (pgs_cons (pg_name (i := 3) nd rfl (by first | exact Or.inl rfl | exact Or.inr rfl)) pgs_nil)))) (fun _ _ _ _ _ => pts_nil) (fun _ _ _ _ _ => (pv 3)))))
      (pss_cons (ps_set (i := 4) nd rfl (by first | exact Or.inl rfl | exact Or.inr rfl) (pe_op op_cat (pe_lc (own := [("start", 2), ("stop", 3)]) (g := (gTup K 2 (gCons (gName 2) (gCons (gName 3) gNil)))) (tt := tYes) rfl nd (pi_tup (pv 0)) (blkOk_by (N := N_rest_of) (sc := defScope s_rest_of) (own := [("start", 2), ("stop", 3)]) (by decide +kernel)) (fun _ _ _ _ _ => (pg_tup rfl (pgs_cons (pg_name (i := 2) nd rfl (by first | exact Or.inl rfl | exact Or.inr rfl)) (pgs_cons (pg_name (i := 3) nd rfl (by first | exact Or.inl rfl | exact Or.inr rfl)) pgs_nil)))) (fun _ _ _ _ _ => pts_nil) (fun _ _ _ _ _ => (pv 2))) (pe_lst (pa_cons (pe_gi rfl T.g_MOST) pa_nil))))
      (pss_one (ps_ret (pe_lc (own := [("start", 2), ("stop", 3)]) (g := (gTup K 2 (gCons (gName 2) (gCons (gName 3) gNil)))) rfl nd (pi_zip (by rfl) T.n_zip (pa_cons (pv 1) (pa_cons (pv 4) pa_nil))) (blkOk_by (N := N_rest_of) (sc := defScope s_rest_of) (own := [("start", 2), ("stop", 3)]) (by decide +kernel)) (fun _ _ _ _ _ => (pg_tup rfl (pgs_cons (pg_name (i := 2) nd rfl (by first | exact Or.inl rfl | exact Or.inr rfl)) (pgs_cons (pg_name (i := 3) nd rfl (by first | exact Or.inl rfl | exact Or.inr rfl)) pgs_nil)))) (fun _ _ _ _ _ => pts_one (pt_cmpR op_lt (pv 2) (pv 3) (nomark _))) (fun _ _ _ _ _ => (pe_tup (pa_cons (pv 2) (pa_cons (pv 3) pa_nil))))))))), ?_⟩
    obtain ⟨a, xs, ps, rfl, ha, hp, lp, k⟩ := h
    have lxp := PairsV.len hp
    have hz0 : 1000000 + 1000 < sizeLine := by decide
    refine ⟨by show 1 ≤ sizeLine; decide, fun l1 n1 => ?_⟩
    have s1 : Same H (upd H l1 (.lst [.int 0])) := Same.new n1
    have e1 : (upd H l1 (.lst [.int 0])) l1 = some (.lst [.int 0]) := upd_same
    generalize upd H l1 (.lst [.int 0]) = H1 at s1 e1
    refine ⟨_, rfl, a, rfl, ⟨_, SqT.ext ha s1⟩, ?_⟩
    intro D nD
    refine lc_pairs (v := fun p => .int p.2) (Walks.tup ha) hp s1 nD (by omega) (fun H' t p Nx _ ht hn => ⟨t, _, rfl, SqT.of ht, rfl, _, _, rfl, _, _, rfl, rfl, rfl, yesT ⟨_, rfl, hn⟩⟩) fun H2 s2 s12 e2 => ?_
    refine ⟨l1, D, _, _, rfl, rfl, s12 _ _ e1, e2, (by rw [List.length_map]; show 1 + _ ≤ _; omega), fun q1 m1 => ?_⟩
    have s3 : Same H (upd H2 q1 (.lst ([.int 0] ++ ps.map fun p : P2 => V.int p.2))) := Same.mut s2 (s2.free m1)
    have e3 : (upd H2 q1 (.lst ([.int 0] ++ ps.map fun p : P2 => V.int p.2))) q1 = some (.lst (V.int 0 :: ps.map fun p : P2 => V.int p.2)) := upd_same
    generalize upd H2 q1 (.lst ([.int 0] ++ ps.map fun p : P2 => V.int p.2)) = H3 at s3 e3
    refine ⟨_, rfl, a, rfl, ⟨_, SqT.ext ha s3⟩, ?_⟩
    intro D2 nD2
    refine lc_pairs (v := fun p => .int p.1) (Walks.tup ha) hp s3 nD2 (by omega) (fun H' t p Nx _ ht hn => ⟨t, _, rfl, SqT.of ht, rfl, _, _, rfl, _, _, rfl, rfl, rfl, yesT ⟨_, rfl, hn⟩⟩) fun H4 s4 s34 e4 => ?_
    refine ⟨by show 1 ≤ sizeLine; decide, fun l2 n2 => ?_⟩
    have nDl : D2 ≠ l2 := ne_of_none e4 n2
    refine ⟨D2, l2, _, _, rfl, rfl, (by rw [upd_ne nDl]; exact e4), upd_same, (by rw [List.length_map]; show _ + 1 ≤ _; omega), fun q2 m2 => ?_⟩
    have m2' : H4 q2 = none := by
      have nq : q2 ≠ l2 := fun z => by rw [z, upd_same] at m2; cases m2
      rw [upd_ne nq] at m2
      exact m2
    have s5 : Same H (upd (upd H4 l2 (.lst [.int 1000000])) q2 (.lst ((ps.map fun p : P2 => V.int p.1) ++ [.int 1000000]))) := Same.mut (Same.mut s4 (s4.free n2)) (s4.free m2')
    have nq12 : q1 ≠ q2 := ne_of_none (s34 _ _ e3) m2'
    have nq1l : q1 ≠ l2 := ne_of_none (s34 _ _ e3) n2
    have e5 : (upd (upd H4 l2 (.lst [.int 1000000])) q2 (.lst ((ps.map fun p : P2 => V.int p.1) ++ [.int 1000000]))) q2 = some (.lst ((ps.map fun p : P2 => V.int p.1) ++ [.int 1000000])) := upd_same
    have e6 : (upd (upd H4 l2 (.lst [.int 1000000])) q2 (.lst ((ps.map fun p : P2 => V.int p.1) ++ [.int 1000000]))) q1 = some (.lst (V.int 0 :: ps.map fun p : P2 => V.int p.2)) := by
      rw [upd_ne nq12, upd_ne nq1l]
      exact s34 _ _ e3
    generalize upd (upd H4 l2 (.lst [.int 1000000])) q2 (.lst ((ps.map fun p : P2 => V.int p.1) ++ [.int 1000000])) = H5 at s5 e5 e6
    refine ⟨_, rfl, _, rfl, q1, q2, _, _, rfl, SqL.of e6, SqL.of e5, ?_⟩
    intro L nL
    have nLH := s5.free nL
    have nq1L : q1 ≠ L := ne_of_none e6 nL
    have nq2L : q2 ≠ L := ne_of_none e5 nL
    generalize hall : ((0 : Int) :: ps.map fun p : P2 => p.2).zip ((ps.map fun p : P2 => p.1) ++ [(1000000 : Int)]) = all
    have lall : all.length = ps.length + 1 := by
      rw [← hall, List.length_zip, List.length_cons, List.length_append, List.length_map, List.length_map]
      exact Nat.min_self _
    have hz1 : (V.int 0 :: ps.map fun p : P2 => V.int p.2) = ((0 : Int) :: ps.map fun p : P2 => p.2).map V.int := by
      rw [List.map_cons, List.map_map]
      rfl
    have hz2 : ((ps.map fun p : P2 => V.int p.1) ++ [V.int 1000000]) = ((ps.map fun p : P2 => p.1) ++ [(1000000 : Int)]).map V.int := by
      rw [List.map_append, List.map_map]
      rfl
    refine lc_it (n := ps.length + 1) (fun i H' => ∃ acc2, Same H H' ∧ H' q1 = some (.lst (V.int 0 :: ps.map fun p : P2 => V.int p.2)) ∧ H' q2 = some (.lst ((ps.map fun p : P2 => V.int p.1) ++ [.int 1000000])) ∧ H' L = some (.lst acc2) ∧ PairsV H' acc2 ((all.take i).filter fun p => decide (p.1 < p.2)) ∧ acc2.length ≤ i)
      ⟨[], Same.mut s5 nLH, (by rw [upd_ne nq1L]; exact e6), (by rw [upd_ne nq2L]; exact e5), upd_same, .nil, Nat.le_refl _⟩ ?_ ?_ ?_ ?_
    · rintro i H' hi ⟨_, _, f1, f2, _⟩
      exact ⟨_, _, _, _, SqL.of f1, SqL.of f2, List.getElem?_eq_getElem (by rw [List.length_cons, List.length_map]; exact hi), List.getElem?_eq_getElem (by rw [List.length_append, List.length_map]; exact hi)⟩
    · rintro H' ⟨_, _, f1, f2, _⟩
      exact ⟨_, _, SqL.of f1, SqL.of f2, .inl (by rw [List.length_cons, List.length_map]; exact Nat.le_refl _)⟩
    · rintro i H' x H'' hi ⟨acc2, s6, f1, f2, f3, hac, hl2⟩ ⟨T1, x1, y1, rfl, nT, rfl, g1, g2⟩
      have g1 := g1 _ (SqL.of f1)
      have g2 := g2 _ (SqL.of f2)
      rw [hz1, List.getElem?_map] at g1
      rw [hz2, List.getElem?_map] at g2
      obtain ⟨b, hb, rfl⟩ := Option.map_eq_some_iff.mp g1
      obtain ⟨c, hc, rfl⟩ := Option.map_eq_some_iff.mp g2
      have hbc : all[i]? = some (b, c) := by
        rw [← hall]
        exact List.getElem?_zip_eq_some.mpr ⟨hb, hc⟩
      have nq1T : q1 ≠ T1 := ne_of_none f1 nT
      have nq2T : q2 ≠ T1 := ne_of_none f2 nT
      have nLT : L ≠ T1 := ne_of_none f3 nT
      have s7 : Same H (upd H' T1 (.tup [.int b, .int c])) := Same.mut s6 (s6.free nT)
      have f4 : (upd H' T1 (.tup [.int b, .int c])) q1 = some (.lst (V.int 0 :: ps.map fun p : P2 => V.int p.2)) := by rw [upd_ne nq1T]; exact f1
      have f5 : (upd H' T1 (.tup [.int b, .int c])) q2 = some (.lst ((ps.map fun p : P2 => V.int p.1) ++ [.int 1000000])) := by rw [upd_ne nq2T]; exact f2
      have f6 : (upd H' T1 (.tup [.int b, .int c])) L = some (.lst acc2) := by rw [upd_ne nLT]; exact f3
      have hac2 := PairsV.stay (Same.tups (Same.new (o := .tup [.int b, .int c]) nT)) hac
      refine ⟨T1, _, rfl, SqT.of upd_same, rfl, _, _, rfl, _, _, rfl, rfl, rfl, ?_⟩
      refine ⟨_, rfl, _, rfl, _, _, rfl, rfl, _, rfl, ?_⟩
      generalize upd H' T1 (.tup [.int b, .int c]) = H7 at s7 f4 f5 f6 hac2
      have stp : (all.take (i + 1)).filter (fun p => decide (p.1 < p.2)) = (all.take i).filter (fun p => decide (p.1 < p.2)) ++ [(b, c)].filter fun p => decide (p.1 < p.2) := by
        rw [List.take_add_one, hbc, List.filter_append]
        rfl
      refine ite2 (fun h1 => ?_) (fun h1 => ?_)
      · have h1 : b < c := of_decide_eq_true h1
        refine ⟨_, rfl, _, rfl, (by show 2 ≤ sizeLine; decide), fun r nr => ?_⟩
        have nq1r : q1 ≠ r := ne_of_none f4 nr
        have nq2r : q2 ≠ r := ne_of_none f5 nr
        have nLr : L ≠ r := ne_of_none f6 nr
        have kp : TupsStay H7 (upd (upd H7 r (.tup [.int b, .int c])) L (.lst (acc2 ++ [.ref r]))) := TupsStay.trans (Same.tups (Same.new nr)) (TupsStay.upd fun z => by rw [upd_ne nLr, f6]; intro w; cases w)
        refine ⟨acc2, (by rw [upd_ne nLr]; exact f6), by omega, acc2 ++ [.ref r], Same.mut (Same.mut s7 (s7.free nr)) nLH, (by rw [upd_ne nq1L, upd_ne nq1r]; exact f4), (by rw [upd_ne nq2L, upd_ne nq2r]; exact f5), upd_same, ?_, by rw [List.length_append]; show _ + 1 ≤ _; omega⟩
        rw [stp, List.filter_cons, if_pos (decide_eq_true h1), List.filter_nil]
        refine PairsV.app (PairsV.stay kp hac2) (PairsV.one ?_)
        rw [upd_ne nLr.symm, upd_same]
      · have h1 : ¬ b < c := fun z => h1 (decide_eq_true z)
        refine ⟨acc2, s7, f4, f5, f6, ?_, by omega⟩
        rw [stp, List.filter_cons, if_neg (fun z => h1 (of_decide_eq_true z)), List.filter_nil, List.append_nil]
        exact hac2
    · rintro H6 ⟨acc2, s6, f1, f2, f3, hac, hl2⟩
      refine k _ L s6 ⟨_, f3, ?_⟩
      rw [← lall, List.take_length] at hac
      unfold restF
      rw [hall]
      exact hac
theorem ok_Spans_init (T : Txt K mg C)  {f_is_span : Addr} {fd_is_span : FuncData} (D_is_span : Cal P w K mg base 2 "is_span" ["value"] (spSpan) f_is_span fd_is_span) {f_united : Addr} {fd_united : FuncData} (D_united : Cal P w K mg base 1 "united" ["pairs"] (spUnited K) f_united fd_united)  {f : Addr} {fd : FuncData} (F : FunD K "__init__" "Spans.__init__" (defArgs s_Spans_init) (defBody s_Spans_init) (defScope s_Spans_init) [] [] f fd) : FnR P w K mg base CX0 3 f (spMade C) := by
  obtain ⟨oc, od, dV, kV, doc, pm, an, cdv, ct, osl, rfl, lk, hcd, hdv, _⟩ := F.ex
  obtain rfl : dV = .none := by
    rcases hdv with ⟨_, e⟩ | ⟨e, _⟩
    · exact e
    · exact absurd rfl e
  refine fn_star (ps := ["self"]) (pv := "pairs") lk hcd sc_Spans_init cxUp_none (bind_star1 (B := fun us => bindArgs (PySem.W.fnOf "__init__" "Spans.__init__" (defArgs s_Spans_init) (defBody s_Spans_init) (defScope s_Spans_init) .none kV doc pm an cdv ct) ⟨us, []⟩) (fun _ => rfl) (fun _ _ _ => rfl)) (fun A outer s H vs Q E hr h => ?_)
  · have nd := sc_Spans_init.nd
    have hu := hu_of hr
    refine ⟨_, PSs.nox (pss_cons (ps_if (pt_not (pt_val (pe_callB (cr_all rfl) (by rfl) T.n_all (by decide +kernel) (pa_cons (pe_lc (own := [("pair", 2)]) (g := (gName 2)) (tt := tYes) rfl nd (pi_tup (pv 1)) (blkOk_by (N := N_Spans_init) (sc := defScope s_Spans_init) (own := [("pair", 2)]) (by decide +kernel)) (fun _ _ _ _ _ => (pg_name (i := 2) nd rfl (by first | exact Or.inl rfl | exact Or.inr rfl))) (fun _ _ _ _ _ => pts_nil) (fun _ _ _ _ _ => (pe_c D_is_span hr rfl (pa_cons (pv 2) pa_nil)))) pa_nil)))) (pss_one ps_never) pss_nil)
      (pss_cons (ps_fld (pv 0) (pe_c D_united hr rfl (pa_cons (pv 1) pa_nil)) rfl)
      (pss_one (ps_fld (pv 0) (pe_callB (cr_sum rfl) (by rfl) T.n_sum (by decide +kernel) (pa_cons (pe_lc (own := [("start", 3), ("stop", 4)]) (g := (gTup K 2 (gCons (gName 3) (gCons (gName 4) gNil)))) (tt := tYes) rfl nd (pi_tup (pe_fld (pv 0) rfl)) (blkOk_by (N := N_Spans_init) (sc := defScope s_Spans_init) (own := [("start", 3), ("stop", 4)]) (by decide +kernel)) (fun _ _ _ _ _ => (pg_tup rfl (pgs_cons (pg_name (i := 3) nd rfl (by first | exact Or.inl rfl | exact Or.inr rfl)) (pgs_cons (pg_name (i := 4) nd rfl (by first | exact Or.inl rfl | exact Or.inr rfl)) pgs_nil)))) (fun _ _ _ _ _ => pts_nil) (fun _ _ _ _ _ => (pe_op op_sub (pv 4) (pv 3)))) pa_nil)) rfl)))), ?_⟩
    obtain ⟨p, dx, a, xs, ps, rfl, hp, ha, hv, o, hz, k⟩ := h
    have lxp := PairsV.len hv
    have eqT : SqT K H a xs := SqT.of ha
    refine ⟨_, rfl, a, rfl, ⟨_, eqT⟩, ?_⟩
    intro D nD
    refine lc_pairs (v := fun _ => .bl true) (Walks.tup eqT) hv (Same.refl H) nD (by omega) (fun H' t q Nx hq ht hn => ⟨rfl, yesT ⟨_, rfl, _, q, rfl, ⟨t, rfl, ht⟩, o q hq, hn⟩⟩) fun H1 s1 _ e1 => ?_
    have hall : (ps.map fun _ => true).all id = true := by
      rw [List.all_map]
      exact List.all_eq_true.mpr fun _ _ => rfl
    refine ⟨D, ps.map fun _ => true, rfl, SqL.of (by rw [List.map_map]; exact e1), true, congrArg V.bl hall, iteF ?_⟩
    refine ⟨_, rfl, a, xs, ps, rfl, .inr (SqT.of (s1 _ _ ha)), PairsV.stay (Same.tups s1) hv, o, hz, fun H2 q u s12 ht can ok cov => ?_⟩
    obtain ⟨us, hq, hus⟩ := ht
    have hp2 := s12 _ _ (s1 _ _ hp)
    refine ⟨_, rfl, p, C, dx, [], rfl, hp2, T.cl, T.nP, (by show 0 < 1000; decide), ?_⟩
    have npq : q ≠ p := fun z => by rw [z, hp2] at hq; cases hq
    have ts3 : TupsStay H2 (upd H2 p (.ins C dx (putF "pairs" (.ref q) []))) := TupsStay.upd fun z => by rw [hp2]; intro w; cases w
    have hus3 := PairsV.stay ts3 hus
    have hq3 := ts3 _ _ hq
    have hp3 : (upd H2 p (.ins C dx (putF "pairs" (.ref q) []))) p = some (.ins C dx [("pairs", .ref q)]) := upd_same
    have k3 : ∀ b ob, b ≠ p → H b = some ob → (upd H2 p (.ins C dx (putF "pairs" (.ref q) []))) b = some ob := fun b ob nb e => by
      rw [upd_ne nb]
      exact s12 _ _ (s1 _ _ e)
    generalize upd H2 p (.ins C dx (putF "pairs" (.ref q) [])) = H3 at ts3 hus3 hq3 hp3 k3
    have lus := PairsV.len hus3
    have eq3 : SqT K H3 q us := SqT.of hq3
    refine ⟨_, rfl, p, C, dx, _, .ref q, rfl, hp3, T.cl, T.nP, (by rw [List.lookup_cons, beq_self_eq_true]), q, rfl, ⟨_, eq3⟩, ?_⟩
    intro D2 nD2
    have hz2 : us.length ≤ sizeLine := by
      rw [lus]
      have h1 := len_of can ok
      have h2 : mostN ≤ sizeLine := by decide
      exact Nat.le_trans h1 h2
    refine lc_pairs (v := fun p => .int (p.2 - p.1)) (Walks.tup eq3) hus3 (Same.refl H3) nD2 hz2 (fun H' t q Nx hq ht hn => ⟨t, _, rfl, SqT.of ht, rfl, _, _, rfl, _, _, rfl, rfl, rfl, yesT ⟨_, rfl, _, rfl, _, _, rfl, rfl, hn⟩⟩) fun H4 s4 _ e4 => ?_
    refine ⟨D2, u.map fun p => p.2 - p.1, rfl, SqL.of (by rw [List.map_map]; exact e4), ?_⟩
    refine ⟨_, rfl, p, C, dx, _, rfl, s4 _ _ hp3, T.cl, T.nM, (by show 1 < 1000; decide), ?_⟩
    refine k _ u (fun b ob nb e => ?_) ⟨⟨dx, q, ?_, us, ?_, ?_⟩, can, ok⟩ cov
    · rw [upd_ne nb]
      exact s4 _ _ (k3 _ _ nb e)
    · exact upd_same
    · rw [upd_ne npq]
      exact s4 _ _ hq3
    · exact PairsV.stay (TupsStay.trans (Same.tups s4) (TupsStay.upd fun z => by rw [s4 _ _ hp3]; intro w; cases w)) hus3
theorem ok_Spans_and (T : Txt K mg C) (S : SpB P w K mg base C fI) {f_shared : Addr} {fd_shared : FuncData} (D_shared : Cal P w K mg base 1 "shared" ["one", "other"] (spShared K) f_shared fd_shared)  {f : Addr} {fd : FuncData} (F : FunD K "__and__" "Spans.__and__" (defArgs s_Spans_and) (defBody s_Spans_and) (defScope s_Spans_and) [] [] f fd) : FnOk P w K mg base CX0 5 f fd ["self", "other"] (spAnd C) := by
  refine F.ok sc_Spans_and (fun vs H Q E h => ?_) (fun cdv A outer s H vs Q E hr h => ?_)
  · obtain ⟨a, b, ps, qs, rfl, _⟩ := h
    rfl
  · have nd := sc_Spans_and.nd
    have hu := hu_of hr
    refine ⟨_, PSs.nox (pss_cons (ps_set (i := 2) nd rfl (by first | exact Or.inl rfl | exact Or.inr rfl) (pe_c D_shared hr rfl (pa_cons (pe_fld (pv 0) rfl) (pa_cons (pe_fld (pv 1) rfl) pa_nil))))
      (pss_one (ps_ret (pe_spS1 S hr rfl (pv 2))))), ?_⟩
    obtain ⟨a, b, ps, qs, rfl, ⟨⟨dx, ta, ha, xs, hta, hx⟩, ca, oa⟩, ⟨⟨dy, tb, hb, ys, htb, hy⟩, cb, ob⟩, lp, lq, k⟩ := h
    refine ⟨_, rfl, a, C, dx, _, _, rfl, ha, T.cl, T.nP, spF_pairs _ _, _, rfl, b, C, dy, _, _, rfl, hb, T.cl, T.nP, spF_pairs _ _, ?_⟩
    refine ⟨ta, tb, xs, ys, ps, qs, rfl, .inr (SqT.of hta), .inr (SqT.of htb), hx, hy, lp, lq, fun H1 l s1 ⟨zs, hl, hz⟩ => ?_⟩
    refine ⟨_, rfl, l, zs, rfl, .inr (SqL.of hl), ?_⟩
    show ∀ x dx, _
    rw [List.append_nil]
    have lz : (sharedF ps qs).length < sizeLine := by
      have h1 : (sharedF ps qs).length ≤ 1000 * 1000 := Nat.le_trans (sharedF_len ps qs) (Nat.mul_le_mul lp lq)
      have h2 : 1000 * 1000 < sizeLine := by decide
      omega
    refine made_sp hz (oks_shared oa ob) lz fun H2 r u s2 sp cov => ?_
    exact k H2 r u (s1.trans s2) sp fun x => (cov x).trans covers_shared
theorem ok_Spans_or (T : Txt K mg C) (S : SpB P w K mg base C fI)   {f : Addr} {fd : FuncData} (F : FunD K "__or__" "Spans.__or__" (defArgs s_Spans_or) (defBody s_Spans_or) (defScope s_Spans_or) [] [] f fd) : FnOk P w K mg base CX0 5 f fd ["self", "other"] (spOr C) := by
  refine F.ok sc_Spans_or (fun vs H Q E h => ?_) (fun cdv A outer s H vs Q E hr h => ?_)
  · obtain ⟨a, b, ps, qs, rfl, _⟩ := h
    rfl
  · have nd := sc_Spans_or.nd
    have hu := hu_of hr
    refine ⟨_, PSs.nox (pss_one (ps_ret (pe_spS2 S hr rfl (pa_star (pe_fld (pv 0) rfl) (pa_star (pe_fld (pv 1) rfl) pa_nil))))), ?_⟩
    obtain ⟨a, b, ps, qs, rfl, ⟨⟨dx, ta, ha, xs, hta, hx⟩, ca, oa⟩, ⟨⟨dy, tb, hb, ys, htb, hy⟩, cb, ob⟩, lp, lq, k⟩ := h
    refine ⟨_, rfl, a, C, dx, _, _, rfl, ha, T.cl, T.nP, spF_pairs _ _, ta, xs, rfl, .inl (SqT.of hta), _, rfl, b, C, dy, _, _, rfl, hb, T.cl, T.nP, spF_pairs _ _, tb, ys, rfl, .inl (SqT.of htb), ?_⟩
    show ∀ x dx, _
    rw [List.append_nil]
    have lz : (ps ++ qs).length < sizeLine := by
      have h2 : 2000 < sizeLine := by decide
      rw [List.length_append]
      omega
    have o2 : Oks (ps ++ qs) := fun p m => (List.mem_append.mp m).elim (oa p) (ob p)
    refine made_sp (PairsV.app hx hy) o2 lz fun H2 r u s2 sp cov => ?_
    exact k H2 r u s2 sp fun x => (cov x).trans covers_append
theorem ok_Spans_sub (T : Txt K mg C) (S : SpB P w K mg base C fI) {f_shared : Addr} {fd_shared : FuncData} (D_shared : Cal P w K mg base 1 "shared" ["one", "other"] (spShared K) f_shared fd_shared) {f_rest_of : Addr} {fd_rest_of : FuncData} (D_rest_of : Cal P w K mg base 1 "rest_of" ["pairs"] (spRest K) f_rest_of fd_rest_of)  {f : Addr} {fd : FuncData} (F : FunD K "__sub__" "Spans.__sub__" (defArgs s_Spans_sub) (defBody s_Spans_sub) (defScope s_Spans_sub) [] [] f fd) : FnOk P w K mg base CX0 5 f fd ["self", "other"] (spSub C) := by
  refine F.ok sc_Spans_sub (fun vs H Q E h => ?_) (fun cdv A outer s H vs Q E hr h => ?_)
  · obtain ⟨a, b, ps, qs, rfl, _⟩ := h
    rfl
  · have nd := sc_Spans_sub.nd
    have hu := hu_of hr
    refine ⟨_, PSs.nox (pss_cons (ps_set (i := 2) nd rfl (by first | exact Or.inl rfl | exact Or.inr rfl) (pe_c D_shared hr rfl (pa_cons (pe_fld (pv 0) rfl) (pa_cons (pe_c D_rest_of hr rfl (pa_cons (pe_fld (pv 1) rfl) pa_nil)) pa_nil))))
      (pss_one (ps_ret (pe_spS1 S hr rfl (pv 2))))), ?_⟩
    obtain ⟨a, b, ps, qs, rfl, ⟨⟨dx, ta, ha, xs, hta, hx⟩, ca, oa⟩, ⟨⟨dy, tb, hb, ys, htb, hy⟩, cb, ob⟩, lp, lq, k⟩ := h
    refine ⟨_, rfl, a, C, dx, _, _, rfl, ha, T.cl, T.nP, spF_pairs _ _, _, rfl, b, C, dy, _, _, rfl, hb, T.cl, T.nP, spF_pairs _ _, ?_⟩
    refine ⟨tb, ys, qs, rfl, SqT.of htb, hy, by omega, fun H0 lr s0 ⟨ws, hlr, hw⟩ => ?_⟩
    have lr1 := restF_len qs
    refine ⟨ta, lr, xs, ws, ps, _, rfl, .inr (SqT.of (s0 _ _ hta)), .inl (SqL.of hlr), PairsV.stay (Same.tups s0) hx, hw, lp, by omega, fun H1 l s1 ⟨zs, hl, hz⟩ => ?_⟩
    refine ⟨_, rfl, l, zs, rfl, .inr (SqL.of hl), ?_⟩
    show ∀ x dx, _
    rw [List.append_nil]
    have lz : (sharedF ps (restF qs)).length < sizeLine := by
      have h1 : (sharedF ps (restF qs)).length ≤ 1000 * 1000 := Nat.le_trans (sharedF_len ps _) (Nat.mul_le_mul lp (by omega))
      have h2 : 1000 * 1000 < sizeLine := by decide
      omega
    refine made_sp hz (oks_shared oa (oks_rest ob)) lz fun H2 r u s2 sp cov => ?_
    refine k H2 r u ((s0.trans s1).trans s2) sp fun x => (cov x).trans (covers_shared.trans ?_)
    rw [covers_rest cb ob]
    refine ⟨fun ⟨h1, _, _, h2⟩ => ⟨h1, h2⟩, fun ⟨h1, h2⟩ => ⟨h1, ?_, ?_, h2⟩⟩
    · obtain ⟨p, m, q1, q2⟩ := h1
      obtain ⟨z1, z2, z3⟩ := oa p m
      omega
    · obtain ⟨p, m, q1, q2⟩ := h1
      obtain ⟨z1, z2, z3⟩ := oa p m
      omega
theorem ok_Spans_len (T : Txt K mg C)    {f : Addr} {fd : FuncData} (F : FunD K "__len__" "Spans.__len__" (defArgs s_Spans_len) (defBody s_Spans_len) (defScope s_Spans_len) [] [] f fd) : FnOk P w K mg base CX0 1 f fd ["self"] (spLen C) := by
  refine F.ok sc_Spans_len (fun vs H Q E h => ?_) (fun cdv A outer s H vs Q E hr h => ?_)
  · obtain ⟨a, ps, rfl, _⟩ := h
    rfl
  · have nd := sc_Spans_len.nd
    have hu := hu_of hr
    refine ⟨_, PSs.nox (pss_one (ps_ret (pe_callB cr_lenRg (by rfl) T.n_len (by decide +kernel) (pa_cons (pe_callTy cr_range1 (by rfl) T.n_range (by decide +kernel) (pa_cons (pe_fld (pv 0) rfl) pa_nil)) pa_nil)))), ?_⟩
    obtain ⟨a, ps, rfl, ⟨⟨dx, ta, ha, xs, hta, hx⟩, ca, oa⟩, k⟩ := h
    refine ⟨_, rfl, a, C, dx, _, _, rfl, ha, T.cl, T.nM, spF_many _ _, _, rfl, fun p np => ?_⟩
    have h1 := total_nonneg oa
    have h2 := cnt_le ps
    have h3 := total_cnt ca oa
    have h4 : (mostN : Int) < 2 ^ 62 := by decide
    refine ⟨p, _, rfl, upd_same, h1, by omega, k _ (Same.new np)⟩
theorem ok_Spans_eq (T : Txt K mg C)    {f : Addr} {fd : FuncData} (F : FunD K "__eq__" "Spans.__eq__" (defArgs s_Spans_eq) (defBody s_Spans_eq) (defScope s_Spans_eq) [] [] f fd) : FnOk P w K mg base CX0 1 f fd ["self", "other"] (spEqS K C) := by
  refine F.ok sc_Spans_eq (fun vs H Q E h => ?_) (fun cdv A outer s H vs Q E hr h => ?_)
  · obtain ⟨a, y, ps, r, rfl, _⟩ := h
    rfl
  · have nd := sc_Spans_eq.nd
    have hu := hu_of hr
    refine ⟨_, PSs.nox (pss_one (ps_ret (pe_and (pe_callB call_isi (by rfl) T.n_isinstance (by decide +kernel) (pa_cons (pv 1) (pa_cons (pe_glob (v := .ref C) rfl T.c_Spans rfl) pa_nil))) (pe_one (pe_cmpR (op_eqD hr.units) (pe_fld (pv 0) rfl) (pe_fld (pv 1) rfl) (nomark _)))))), ?_⟩
    obtain ⟨a, y, ps, r, rfl, ⟨⟨dx, ta, ha, xs, hta, hx⟩, ca, oa⟩, hy, q⟩ := h
    rcases hy with ⟨b, qs, rfl, ⟨⟨dy, tb, hb, ys, htb, hys⟩, cb, ob⟩, rfl⟩ | ⟨rfl, ⟨b, zs, rfl, hb⟩ | ⟨i, rfl⟩⟩
    · refine ⟨_, rfl, _, _, _, _, true, rfl, .own _, .base (.ins hb T.cl T.ha T.hn T.htk T.hm), T.kS, true, rfl, iteT ?_⟩
      refine ⟨_, rfl, a, C, dx, _, _, rfl, ha, T.cl, T.nP, spF_pairs _ _, _, rfl, b, C, dy, _, _, rfl, hb, T.cl, T.nP, spF_pairs _ _, dT ps, dT qs, dp_tup ⟨xs, hta, hx⟩, dp_tup ⟨ys, htb, hys⟩, shaped_dT _, shaped_dT _, ?_⟩
      rw [eqv_dT]
      exact q
    · exact ⟨_, rfl, _, _, _, _, false, rfl, .own _, .base (.tup hb), T.kT, false, rfl, iteF q⟩
    · exact ⟨_, rfl, _, _, _, _, false, rfl, .own _, .base (.int i), T.kI, false, rfl, iteF q⟩
theorem ok_law_pot (T : Txt K mg C)    {f : Addr} {fd : FuncData} (F : FunD K "_law_pot" "_law_pot" (defArgs s_law_pot) (defBody s_law_pot) (defScope s_law_pot) [] [] f fd) : FnOk P w K mg base CX0 1 f fd ["_law_script", "_law_k"] (spPot K) := by
  refine F.ok sc_law_pot (fun vs H Q E h => ?_) (fun cdv A outer s H vs Q E hr h => ?_)
  · obtain ⟨a, ns, k, rfl, _⟩ := h
    rfl
  · have nd := sc_law_pot.nd
    have hu := hu_of hr
    refine ⟨_, PSs.nox (pss_cons (ps_set (i := 2) nd rfl (by first | exact Or.inl rfl | exact Or.inr rfl) (pe_ifExp (pt_cmpR op_lt (pv 1) (pe_callB call_len (by rfl) T.n_len (by decide +kernel) (pa_cons (pv 0) pa_nil)) (nomark _)) (pe_ix ix_list (pv 0) (pv 1) (fun _ _ => rfl)) (pe_op op_add (pe_op op_mul pe_int (pv 1)) pe_int)))
      (pss_cons (ps_set (i := 3) nd rfl (by first | exact Or.inl rfl | exact Or.inr rfl) (pe_op op_mul (pe_op op_modN (pe_callTy call_int1 (by rfl) T.n_int (by decide +kernel) (pa_cons (pe_callB call_abs (by rfl) T.n_abs (by decide +kernel) (pa_cons (pv 2) pa_nil)) pa_nil)) (pe_op op_powW (pe_op op_powW pe_int pe_int) pe_int)) (pe_callTy call_int1 (by rfl) T.n_int (by decide +kernel) (pa_cons (pe_cmpR op_ge (pe_callB call_abs (by rfl) T.n_abs (by decide +kernel) (pa_cons (pv 2) pa_nil)) (pe_op op_powW pe_int pe_int) (nomark _)) pa_nil))))
      (pss_one (ps_ret (pe_lst (pa_cons (pv 3) (pa_cons (pe_op op_modN (pe_callTy call_int1 (by rfl) T.n_int (by decide +kernel) (pa_cons (pe_op op_add (pe_op op_add (pe_op op_mul (pe_op op_modN (pe_callTy call_int1 (by rfl) T.n_int (by decide +kernel) (pa_cons (pv 2) pa_nil)) pe_int) pe_int) (pe_op op_mul (pe_op op_mul pe_int (pv 1)) (pv 1))) pe_int) pa_nil)) pe_int) (pa_cons pe_int pa_nil)))))))), ?_⟩
    obtain ⟨a, ns, k, rfl, ha, k0, k1, q⟩ := h
    unfold tSeq tAsg
    refine tIf_any (fun v => ∃ c : Int, v = .int c) (fun R hR => ?_) ?_
    · refine ⟨_, rfl, _, rfl, _, _, rfl, .inl ⟨_, ha, rfl⟩, _, _, rfl, rfl, _, rfl, ite2 (fun h1 => ?_) (fun _ => ?_)⟩
      · have h1 : k < ((ns.map V.int).length : Int) := of_decide_eq_true h1
        obtain ⟨x, e, m⟩ := atI_nat k0 h1
        obtain ⟨c, _, rfl⟩ := List.mem_map.mp m
        exact ⟨_, rfl, _, rfl, a, _, k, _, rfl, rfl, ha, e, hR _ ⟨c, rfl⟩⟩
      · exact ⟨_, rfl, _, _, rfl, rfl, .inl (by omega), _, _, rfl, rfl, hR _ ⟨_, rfl⟩⟩
    · rintro v ⟨c, rfl⟩
      refine ⟨_, rfl, _, rfl, .inl ⟨_, rfl, ?_⟩⟩
      refine ⟨_, _, rfl, rfl, ⟨by decide, by decide +kernel⟩, _, _, rfl, rfl, ⟨by decide, by decide +kernel⟩, _, _, rfl, rfl, big_ne, ?_⟩
      refine ⟨_, rfl, _, rfl, _, _, rfl, rfl, ⟨by decide, by decide +kernel⟩, _, _, rfl, rfl, .inr ⟨_, rfl, ?_⟩⟩
      refine ⟨_, _, rfl, rfl, .inr (bit_in _), ?_⟩
      generalize Int.fmod _ _ * _ = X1
      refine ⟨_, rfl, _, rfl, .inl ⟨_, rfl, ?_⟩⟩
      refine ⟨_, _, rfl, rfl, (by show (2305843009213693951 : Int) ≠ 0; decide), _, _, rfl, rfl, .inr (by decide), ?_⟩
      refine ⟨_, rfl, _, _, rfl, rfl, .inl (by omega), _, rfl, _, _, rfl, rfl, .inl (by omega), _, _, rfl, rfl, _, _, rfl, rfl, .inl ⟨_, rfl, ?_⟩⟩
      refine ⟨_, _, rfl, rfl, (by show (2305843009213693921 : Int) ≠ 0; decide), ?_⟩
      refine ⟨by show 3 ≤ sizeLine; decide, fun l nl => ?_⟩
      have z := fmod_in (i := Int.fmod c 2305843009213693951 * 71993 + 9241 * k * k + 53) (n := 2305843009213693921) (by decide)
      exact q _ l nl (Same.new nl) ⟨_, _, 0, upd_same, z.1, z.2, Int.le_refl _, Int.le_refl _⟩
theorem ok_law_draw (T : Txt K mg C)    {f : Addr} {fd : FuncData} (F : FunD K "_law_draw" "_law_draw" (defArgs s_law_draw) (defBody s_law_draw) (defScope s_law_draw) [] [] f fd) : FnOk P w K mg base CX0 1 f fd ["_law_pot_here", "_law_many"] (spDraw) := by
  refine F.ok sc_law_draw (fun vs H Q E h => ?_) (fun cdv A outer s H vs Q E hr h => ?_)
  · obtain ⟨p, n, B, rfl, _⟩ := h
    rfl
  · have nd := sc_law_draw.nd
    have hu := hu_of hr
    refine ⟨_, PSs.nox (pss_cons (ps_if (pt_cmpR op_gt (pe_ix ix_list (pv 0) pe_int (fun _ _ => rfl)) pe_int (nomark _)) (pss_cons (ps_set (i := 2) nd rfl (by first | exact Or.inl rfl | exact Or.inr rfl) (pe_op op_modN (pe_callTy call_int1 (by rfl) T.n_int (by decide +kernel) (pa_cons (pe_ix ix_list (pv 0) pe_int (fun _ _ => rfl)) pa_nil)) (pv 1)))
      (pss_cons (ps_asg (pe_op op_fdivN (pe_ix ix_list (pv 0) pe_int (fun _ _ => rfl)) (pv 1)) (pg_sub (pv 0) pe_int set_list))
      (pss_one (ps_ret (pv 2))))) pss_nil)
      (pss_cons (ps_asg (pe_op op_add (pe_ix ix_list (pv 0) pe_int (fun _ _ => rfl)) pe_int) (pg_sub (pv 0) pe_int set_list))
      (pss_cons (ps_set (i := 3) nd rfl (by first | exact Or.inl rfl | exact Or.inr rfl) (pe_ix ix_list (pe_lst (pa_cons pe_int (pa_cons pe_int (pa_cons pe_int (pa_cons pe_int (pa_cons pe_int pa_nil)))))) (pe_op op_modN (pe_callTy call_int1 (by rfl) T.n_int (by decide +kernel) (pa_cons (pe_ix ix_list (pv 0) pe_int (fun _ _ => rfl)) pa_nil)) pe_int) (fun _ _ => rfl)))
      (pss_cons (ps_set (i := 4) nd rfl (by first | exact Or.inl rfl | exact Or.inr rfl) (pe_op op_modN (pe_callTy call_int1 (by rfl) T.n_int (by decide +kernel) (pa_cons (pe_op op_powW (pe_op op_add (pe_op op_add (pe_ix ix_list (pv 0) pe_int (fun _ _ => rfl)) (pe_op op_mul (pe_op op_mul pe_int (pe_ix ix_list (pv 0) pe_int (fun _ _ => rfl))) (pe_ix ix_list (pv 0) pe_int (fun _ _ => rfl)))) pe_int) pe_int) pa_nil)) (pv 3)))
      (pss_cons (ps_set (i := 4) nd rfl (by first | exact Or.inl rfl | exact Or.inr rfl) (pe_op op_modN (pe_callTy call_int1 (by rfl) T.n_int (by decide +kernel) (pa_cons (pe_op op_mul (pv 4) (pe_op op_add (pe_op op_modN (pe_callTy call_int1 (by rfl) T.n_int (by decide +kernel) (pa_cons (pv 4) pa_nil)) pe_int) (pe_op op_mul pe_int (pe_ix ix_list (pv 0) pe_int (fun _ _ => rfl))))) pa_nil)) pe_int))
      (pss_one (ps_ret (pe_op op_modN (pe_callTy call_int1 (by rfl) T.n_int (by decide +kernel) (pa_cons (pe_op op_fdivN (pv 4) pe_int) pa_nil)) (pv 1))))))))), ?_⟩
    obtain ⟨p, n, B, rfl, ⟨x, y, z, hp, y0, y1, z0, z1⟩, n1, n2, hB, q⟩ := h
    have at0 : ∀ x y z : Int, atI [V.int x, V.int y, V.int z] 0 = some (V.int x) := fun _ _ _ => rfl
    have at1 : ∀ x y z : Int, atI [V.int x, V.int y, V.int z] 1 = some (V.int y) := fun _ _ _ => rfl
    have at2 : ∀ x y z : Int, atI [V.int x, V.int y, V.int z] 2 = some (V.int z) := fun _ _ _ => rfl
    have hn : n ≠ 0 := by omega
    refine ⟨_, rfl, p, _, _, _, rfl, rfl, SqL.of hp, at0 x y z, _, _, rfl, rfl, _, rfl, ite2 (fun h1 => ?_) (fun h1 => ?_)⟩
    · refine ⟨_, rfl, p, _, _, _, rfl, rfl, SqL.of hp, at0 x y z, .inl ⟨_, rfl, ?_⟩⟩
      refine ⟨_, rfl, _, _, rfl, rfl, hn, ?_⟩
      refine ⟨_, rfl, p, _, _, _, rfl, rfl, SqL.of hp, at0 x y z, _, rfl, _, _, rfl, rfl, ⟨hn, by omega⟩, ?_⟩
      refine ⟨_, rfl, p, _, _, 0, rfl, rfl, hp, rfl, _, rfl, ?_⟩
      have d := fmod_in (i := x) n1
      exact q _ _ (But.put p H _) ⟨_, y, z, upd_same, y0, y1, z0, by omega⟩ d.1 d.2
    · refine ⟨_, rfl, p, _, _, _, rfl, rfl, SqL.of hp, at2 x y z, _, _, rfl, rfl, ?_⟩
      refine ⟨_, rfl, p, _, _, 2, rfl, rfl, hp, rfl, ?_⟩
      have b1 := But.put p H (.lst [.int x, .int y, .int (z + 1)])
      have e1 : (upd H p (.lst [.int x, .int y, .int (z + 1)])) p = some (.lst [.int x, .int y, .int (z + 1)]) := upd_same
      show (fun H1 : Hp => _) (upd H p (.lst [.int x, .int y, .int (z + 1)]))
      generalize upd H p (.lst [.int x, .int y, .int (z + 1)]) = H1 at b1 e1
      refine ⟨by show 5 ≤ sizeLine; decide, fun l nl => ?_⟩
      have npl : p ≠ l := ne_of_none e1 nl
      have b2 : But p H (upd H1 l (.lst [V.int 2147483647, V.int 2147483629, V.int 2147483587, V.int 2147483579, V.int 2147483563])) := But.trans b1 (Same.but (Same.new nl) p)
      have e2 : (upd H1 l (.lst [V.int 2147483647, V.int 2147483629, V.int 2147483587, V.int 2147483579, V.int 2147483563])) p = some (.lst [.int x, .int y, .int (z + 1)]) := by rw [upd_ne npl]; exact e1
      have e3 : (upd H1 l (.lst [V.int 2147483647, V.int 2147483629, V.int 2147483587, V.int 2147483579, V.int 2147483563])) l = some (.lst [V.int 2147483647, V.int 2147483629, V.int 2147483587, V.int 2147483579, V.int 2147483563]) := upd_same
      generalize upd H1 l (.lst [V.int 2147483647, V.int 2147483629, V.int 2147483587, V.int 2147483579, V.int 2147483563]) = H2 at b2 e2 e3
      have z0' : 0 ≤ z + 1 := by omega
      have z1' : z + 1 ≤ 100001 := by omega
      obtain ⟨r, er, r0, r1⟩ := prime_at (fmod_in (i := z + 1) (n := 5) (by decide)).1 (fmod_in (i := z + 1) (n := 5) (by decide)).2
      have hr0 : r ≠ 0 := by omega
      refine ⟨_, rfl, p, _, _, _, rfl, rfl, SqL.of e2, at2 x y (z + 1), .inl ⟨_, rfl, ?_⟩⟩
      refine ⟨_, _, rfl, rfl, (by show (5 : Int) ≠ 0; decide), l, _, _, _, rfl, rfl, SqL.of e3, er, ?_⟩
      have sq := sq_in z0' z1'
      have esq : (99991 * 100001 * 100001 : Int) = 999929998299991 := by decide
      have e64 : (2 : Int) ^ 64 = 18446744073709551616 := by decide
      have m1 : CMul 99991 (z + 1) := .inl ⟨by decide, by decide⟩
      have m2 : CMul (99991 * (z + 1)) (z + 1) := .inl ⟨by omega, by omega⟩
      refine ⟨_, rfl, p, _, _, _, rfl, rfl, SqL.of e2, at1 x y (z + 1), ?_⟩
      refine ⟨_, rfl, p, _, _, _, rfl, rfl, SqL.of e2, at2 x y (z + 1), _, _, rfl, rfl, m1, ?_⟩
      refine ⟨_, rfl, p, _, _, _, rfl, rfl, SqL.of e2, at2 x y (z + 1), _, _, rfl, rfl, m2, ?_⟩
      refine ⟨_, _, rfl, rfl, _, _, rfl, rfl, _, _, rfl, rfl, ⟨by decide, pow_bits y0 y1 z0' z1'⟩, .inl ⟨_, rfl, ?_⟩⟩
      refine ⟨_, rfl, _, _, rfl, rfl, hr0, ?_⟩
      have hm := fmod_in (i := (y + 99991 * (z + 1) * (z + 1) + 61) ^ Int.toNat 3) r0
      have m3 : CMul 83 (z + 1) := .inl ⟨by decide, by decide⟩
      have m4 : ∀ M W : Int, 0 ≤ M ∧ M < r → CMul M W := fun M W hM => .inl ⟨by omega, by omega⟩
      refine ⟨_, rfl, _, rfl, .inl ⟨_, rfl, ?_⟩⟩
      refine ⟨_, _, rfl, rfl, (by show (10007 : Int) ≠ 0; decide), ?_⟩
      refine ⟨_, rfl, p, _, _, _, rfl, rfl, SqL.of e2, at2 x y (z + 1), _, _, rfl, rfl, m3, _, _, rfl, rfl, _, _, rfl, rfl, m4 _ _ hm, .inl ⟨_, rfl, ?_⟩⟩
      refine ⟨_, _, rfl, rfl, (by show (2305843009213693907 : Int) ≠ 0; decide), ?_⟩
      refine ⟨_, rfl, _, _, rfl, rfl, ⟨by decide, by decide⟩, .inl ⟨_, rfl, ?_⟩⟩
      refine ⟨_, rfl, _, _, rfl, rfl, hn, ?_⟩
      exact q _ _ b2 ⟨_, y, z + 1, e2, y0, y1, z0', by omega⟩ (fmod_in n1).1 (fmod_in n1).2
theorem ok_law_any (T : Txt K mg C)  {f_law_draw : Addr} {fd_law_draw : FuncData} (D_law_draw : Cal P w K mg base 1 "_law_draw" ["_law_pot_here", "_law_many"] (spDraw) f_law_draw fd_law_draw)  {f : Addr} {fd : FuncData} (F : FunD K "_law_any" "_law_any" (defArgs s_law_any) (defBody s_law_any) (defScope s_law_any) [] [] f fd) : FnOk P w K mg base CX0 2 f fd ["_law_pot_here", "_law_items"] (spAny) := by
  refine F.ok sc_law_any (fun vs H Q E h => ?_) (fun cdv A outer s H vs Q E hr h => ?_)
  · obtain ⟨p, l, xs, B, rfl, _⟩ := h
    rfl
  · have nd := sc_law_any.nd
    have hu := hu_of hr
    refine ⟨_, PSs.nox (pss_one (ps_ret (pe_ix ix_list (pv 1) (pe_c D_law_draw hr rfl (pa_cons (pv 0) (pa_cons (pe_callB call_len (by rfl) T.n_len (by decide +kernel) (pa_cons (pv 1) pa_nil)) pa_nil))) (fun _ _ => rfl)))), ?_⟩
    obtain ⟨p, l, xs, B, rfl, hp, hl, np, x0, x1, hB, q⟩ := h
    refine ⟨_, rfl, _, rfl, _, rfl, _, _, rfl, .inl ⟨_, SqL.of hl, rfl⟩, ?_⟩
    refine ⟨p, xs.length, B, rfl, hp, by omega, by omega, hB, fun H1 d b1 p1 d0 d1 => ?_⟩
    obtain ⟨x, e, m⟩ := atI_nat (xs := xs) d0 d1
    exact ⟨l, xs, d, x, rfl, rfl, SqL.of (b1 _ _ np hl), e, q _ _ b1 p1 m⟩
theorem ok_law_places (T : Txt K mg C)    {f : Addr} {fd : FuncData} (F : FunD K "_law_places" "_law_places" (defArgs s_law_places) (defBody s_law_places) (defScope s_law_places) [] [] f fd) : FnOk P w K mg base CX0 1 f fd ["_law_couples_here"] (spPlaces) := by
  refine F.ok sc_law_places (fun vs H Q E h => ?_) (fun cdv A outer s H vs Q E hr h => ?_)
  · obtain ⟨l, ps, rfl, _⟩ := h
    rfl
  · have nd := sc_law_places.nd
    have hu := hu_of hr
    refine ⟨_, PSs.nox (pss_cons (ps_set (i := 1) nd rfl (by first | exact Or.inl rfl | exact Or.inr rfl) pe_dnewK)
      (pss_cons (ps_for PassesOwn.never rfl (pi_list (pv 0)) (pg_tup rfl (pgs_cons (pg_name (i := 2) nd rfl (by first | exact Or.inl rfl | exact Or.inr rfl)) (pgs_cons (pg_name (i := 3) nd rfl (by first | exact Or.inl rfl | exact Or.inr rfl)) pgs_nil))) (pss_one (ps_for PassesOwn.never rfl (pi_range2 rfl T.n_range (pa_cons (pv 2) (pa_cons (pv 3) pa_nil))) (pg_name (i := 4) nd rfl (by first | exact Or.inl rfl | exact Or.inr rfl)) (pss_one (ps_dput hu (pv 1) (pv 4) pe_bl rfl)))))
      (pss_one (ps_ret (pv 1))))), ?_⟩
    obtain ⟨l, ps, rfl, ⟨xs, hl, hx⟩, o, w9, l5, k⟩ := h
    have lxp := PairsV.len hx
    intro d nd0
    refine ⟨_, rfl, l, rfl, ⟨_, SqL.of (Same.new nd0 _ _ hl)⟩, for_list (K := K) (a := l) (xs := xs) (fun i σ H' => ∃ (ks : List Int) (v2 v3 v4 : Option V), σ = [some (.ref l), some (.ref d), v2, v3, v4] ∧ Same H H' ∧ H' d = some (.dK (setK ks)) ∧ ks.Nodup ∧ (∀ x, x ∈ ks ↔ covers (ps.take i) x) ∧ ks.length ≤ 9 * i)
      ⟨[], none, none, none, rfl, Same.new nd0, upd_same, List.nodup_nil, (fun x => ⟨fun h => absurd h List.not_mem_nil, fun h => absurd h covers_nil⟩), Nat.zero_le _⟩ (fun i σ H' _ ⟨_, _, _, _, _, s, _⟩ => SqL.of (s _ _ hl)) ?_ ?_⟩
    · rintro i x σ H' hi ⟨ks, v2, v3, v4, rfl, s, hd, nk, mk, lk⟩
      obtain ⟨⟨a, b⟩, hp, t, rfl, ht⟩ := PairsV.get (PairsV.stay (Same.tups s) hx) hi
      have hpm := List.mem_of_getElem? hp
      obtain ⟨o1, o2, o3⟩ := o _ hpm
      have w1 := w9 _ hpm
      have o1 : 0 ≤ a := o1
      have o2 : a < b := o2
      have o3 : b ≤ 1000000 := o3
      have w1 : b - a ≤ 9 := w1
      have hi' : i < xs.length := (List.getElem?_eq_some_iff.mp hi).1
      refine ⟨t, _, rfl, SqT.of ht, rfl, _, _, rfl, _, _, rfl, rfl, ?_⟩
      refine ⟨_, rfl, _, rfl, a, b, rfl, ⟨by omega, by omega, by omega, by omega⟩, for_range (fun j σ H3 => ∃ (ks : List Int) (v4 : Option V), σ = [some (.ref l), some (.ref d), some (.int a), some (.int b), v4] ∧ Same H H3 ∧ H3 d = some (.dK (setK ks)) ∧ ks.Nodup ∧ (∀ x, x ∈ ks ↔ (covers (ps.take i) x ∨ (a ≤ x ∧ x < a + (j : Int)))) ∧ ks.length ≤ 9 * i + j)
        ⟨ks, v4, rfl, s, hd, nk, (fun x => (mk x).trans ⟨.inl, fun h => h.elim id fun z => by omega⟩), lk⟩ ?_ ?_⟩
      · rintro j σ H3 hj ⟨ks, v4, rfl, s, hd, nk, mk, lk⟩
        have hz : 45 < sizeLine := by decide
        refine ⟨_, rfl, _, rfl, d, _, rfl, .inl ⟨setK ks, .inl (a + (j : Int)), hd, rfl, by rw [setK_len]; omega, rfl⟩, ?_⟩
        refine ⟨addK ks (a + (j : Int)), _, rfl, Same.mut s nd0, (by rw [upd_same, putK_set]), addK_nodup nk, (fun x => ?_), Nat.le_trans addK_len (by omega)⟩
        rw [addK_mem, mk x, or_assoc]
        constructor
        · rintro (h | h | h)
          · exact .inl h
          · exact .inr (by omega)
          · exact .inr (by omega)
        · rintro (h | h)
          · exact .inl h
          · by_cases e : x = a + (j : Int)
            · exact .inr (.inr e)
            · exact .inr (.inl (by omega))
      · rintro σ H3 ⟨ks, v4, rfl, s, hd, nk, mk, lk⟩
        refine ⟨ks, _, _, _, rfl, s, hd, nk, (fun x => (mk x).trans ?_), by omega⟩
        rw [List.take_add_one, hp]
        rw [covers_append]
        have e : covers (Option.toList (some (a, b))) x ↔ (a ≤ x ∧ x < b) := by
          show covers [(a, b)] x ↔ _
          rw [covers_cons]
          exact ⟨fun h => h.elim id fun z => absurd z covers_nil, .inl⟩
        rw [e]
        constructor
        · rintro (h | h)
          · exact .inl h
          · exact .inr (by omega)
        · rintro (h | h)
          · exact .inl h
          · exact .inr (by omega)
    · rintro σ H' ⟨ks, v2, v3, v4, rfl, s, hd, nk, mk, lk⟩
      rw [lxp, List.take_length] at mk
      exact ⟨_, rfl, k _ d ks s nd0 hd nk mk (by omega)⟩
theorem ok_law_couples (T : Txt K mg C)    {f : Addr} {fd : FuncData} (F : FunD K "_law_couples" "_law_couples" (defArgs s_law_couples) (defBody s_law_couples) (defScope s_law_couples) [] [] f fd) : FnOk P w K mg base CX0 1 f fd ["_law_places_here"] (spCouples) := by
  refine F.ok sc_law_couples (fun vs H Q E h => ?_) (fun cdv A outer s H vs Q E hr h => ?_)
  · obtain ⟨d, ks, rfl, _⟩ := h
    rfl
  · have nd := sc_law_couples.nd
    have hu := hu_of hr
    refine ⟨_, PSs.nox (pss_cons (ps_set (i := 1) nd rfl (by first | exact Or.inl rfl | exact Or.inr rfl) (pe_lst pa_nil))
      (pss_cons (ps_for PassesOwn.never rfl (pi_list (pe_callB (cr_sortedDI rfl) (by rfl) T.n_sorted (by decide +kernel) (pa_cons (pv 0) pa_nil))) (pg_name (i := 2) nd rfl (by first | exact Or.inl rfl | exact Or.inr rfl)) (pss_one (ps_if (PW.pt (pw_and (pt_cmpR (op_neD hr.units) (pv 1) (pe_lst pa_nil) (nomark _)) (pw_and1 (pt_cmpR op_eq (pe_ix ix_tup (pe_ix ix_list (pv 1) (pe_un un_neg pe_int) (fun _ _ => rfl)) pe_int (fun _ _ => rfl)) (pv 2) (nomark _))))) (pss_one (ps_asg (pe_tup (pa_cons (pe_ix ix_tup (pe_ix ix_list (pv 1) (pe_un un_neg pe_int) (fun _ _ => rfl)) pe_int (fun _ _ => rfl)) (pa_cons (pe_op op_add (pv 2) pe_int) pa_nil))) (pg_sub (pv 1) (pe_un un_neg pe_int) set_list))) (pss_one (ps_expr (pe_bm PySem.F.plainAttrs_list PySem.F.slot_list_append PySem.F.type_list_append mt_append (pv 1) (pa_cons (pe_tup (pa_cons (pv 2) (pa_cons (pe_op op_add (pv 2) pe_int) pa_nil))) pa_nil)))))))
      (pss_one (ps_ret (pe_tupleOf (by rfl) T.n_tuple (pv 1)))))), ?_⟩
    obtain ⟨d, ks, rfl, hd, nk, bk, lk, k⟩ := h
    refine ⟨Nat.zero_le _, fun l nl => ?_⟩
    have s1 : Same H (upd H l (.lst [])) := Same.new nl
    have hl1 : (upd H l (.lst [])) l = some (.lst []) := upd_same
    generalize upd H l (.lst []) = H1 at s1 hl1
    refine ⟨_, rfl, d, setK ks, ks, rfl, Rd.of (s1 _ _ hd), by unfold setK; rw [List.map_map]; rfl, fun ys q perm srt nq => ?_⟩
    have lyk : ys.length = ks.length := perm.length_eq
    have nlq : l ≠ q := ne_of_none hl1 nq
    have st := strict_of srt (nodup_perm perm nk)
    have by' : ∀ x ∈ ys, 0 ≤ x ∧ x < 1000000 := fun x m => bk x (perm.mem_iff.mp m)
    have hz : 1000 < sizeLine := by decide
    refine ⟨q, rfl, ⟨_, SqL.of upd_same⟩, for_list (K := K) (a := q) (xs := ys.map V.int) (fun i σ H' => ∃ (fs : List V) (v2 : Option V), σ = [some (.ref d), some (.ref l), v2] ∧ Same H H' ∧ H' q = some (.lst (ys.map V.int)) ∧ H' l = some (.lst fs) ∧ PairsV H' fs (cpF (ys.take i)) ∧ fs.length ≤ i)
      ⟨[], none, rfl, Same.mut s1 (s1.free nq), upd_same, (by rw [upd_ne nlq]; exact hl1), .nil, Nat.zero_le _⟩ (fun i σ H' _ ⟨_, _, _, _, e, _⟩ => SqL.of e) ?_ ?_⟩
    · rintro i x σ H' hi ⟨fs, v2, rfl, s, hq, hl, hf, lf⟩
      rw [List.getElem?_map] at hi
      obtain ⟨y, hy, rfl⟩ := Option.map_eq_some_iff.mp hi
      have hi' : i < ys.length := (List.getElem?_eq_some_iff.mp hy).1
      have stp : cpF (ys.take (i + 1)) = cpStep (cpF (ys.take i)) y := by
        unfold cpF
        exact fold_take hy
      generalize cpF (ys.take i) = g at stp hf
      refine ⟨_, rfl, Nat.zero_le _, fun e ne => ?_⟩
      have nle : l ≠ e := ne_of_none hl ne
      have nqe : q ≠ e := ne_of_none hq ne
      have s2 : Same H (upd H' e (.lst [])) := Same.mut s (s.free ne)
      have hl2 : (upd H' e (.lst [])) l = some (.lst fs) := by rw [upd_ne nle]; exact hl
      have hq2 : (upd H' e (.lst [])) q = some (.lst (ys.map V.int)) := by rw [upd_ne nqe]; exact hq
      have hf2 := PairsV.stay (Same.tups (Same.new (o := .lst []) ne)) hf
      have he2 : (upd H' e (.lst [])) e = some (.lst []) := upd_same
      generalize upd H' e (.lst []) = H2 at s2 hl2 hq2 hf2 he2
      have app : ∀ r, H2 r = none → TupsStay H2 (upd (upd H2 r (.tup [.int y, .int (y + 1)])) l (.lst (fs ++ [.ref r]))) := fun r nr =>
        TupsStay.trans (Same.tups (Same.new nr)) (TupsStay.upd fun z => by rw [upd_ne (ne_of_none hl2 nr), hl2]; intro w; cases w)
      refine ⟨dL g, dL [], dp_lst hl2 hf2, dp_lst he2 .nil, shaped_dL _, shaped_dL _, ?_⟩
      rw [eqv_dL]
      have hz2 : fs.length < sizeLine := by omega
      rcases List.eq_nil_or_concat g with e | ⟨g0, p, e⟩
      · subst e
        refine ⟨false, rfl, iteF ?_⟩
        show if false = true then _ else _
        refine iteF ?_
        refine ⟨_, rfl, .inl ⟨rfl, _, SqL.of hl2⟩, _, rfl, _, rfl, _, _, rfl, rfl, (by show 2 ≤ sizeLine; decide), fun r nr => ?_⟩
        refine ⟨l, fs, _, rfl, rfl, (by rw [upd_ne (ne_of_none hl2 nr)]; exact hl2), hz2, ?_⟩
        refine ⟨fs ++ [.ref r], _, rfl, Same.mut (Same.mut s2 (s2.free nr)) nl, ?_, upd_same, ?_, by rw [List.length_append]; show _ + 1 ≤ _; omega⟩
        · rw [upd_ne nlq.symm, upd_ne (ne_of_none hq2 nr)]
          exact hq2
        · rw [stp]
          cases hf2
          refine PairsV.one ?_
          rw [upd_ne (ne_of_none hl2 nr).symm, upd_same]
      · rw [List.concat_eq_append] at e
        subst e
        obtain ⟨gs, x, rfl, hg, t, rfl, ht⟩ := PairsV.snoc hf2
        obtain ⟨a, b⟩ := p
        refine ⟨true, ?_, ?_⟩
        · rw [decide_eq_false (by intro z; exact absurd z (by simp))]
          rfl
        show if true = true then _ else _
        refine iteT ?_
        refine ⟨_, rfl, _, rfl, l, _, -1, _, rfl, rfl, SqL.of hl2, atI_last _ _, t, _, 1, _, rfl, rfl, SqT.of ht, atI_two1 _ _, _, rfl, rfl, _, rfl, ?_⟩
        show if decide (V.int b = V.int y) = true then _ else _
        refine ite2 (fun h1 => ?_) (fun h1 => ?_)
        · have h1 : b = y := V.int.inj (of_decide_eq_true h1)
          refine ⟨_, rfl, _, rfl, l, _, -1, _, rfl, rfl, SqL.of hl2, atI_last _ _, t, _, 0, _, rfl, rfl, SqT.of ht, atI_two0 _ _, _, rfl, _, _, rfl, rfl, (by show 2 ≤ sizeLine; decide), fun r nr => ?_⟩
          refine ⟨_, rfl, _, rfl, l, _, -1, gs.length, rfl, rfl, (by rw [upd_ne (ne_of_none hl2 nr)]; exact hl2), (by rw [List.length_append]; exact ixN_last _), ?_⟩
          have e3 : (gs ++ [V.ref t]).set gs.length (.ref r) = gs ++ [.ref r] := by
            rw [List.set_append_right _ _ (Nat.le_refl _), Nat.sub_self]
            rfl
          rw [e3]
          refine ⟨gs ++ [.ref r], _, rfl, Same.mut (Same.mut s2 (s2.free nr)) nl, ?_, upd_same, ?_, by rw [List.length_append] at lf ⊢; exact Nat.le_succ_of_le lf⟩
          · rw [upd_ne nlq.symm, upd_ne (ne_of_none hq2 nr)]
            exact hq2
          · rw [stp, cpStep_snoc, if_pos h1]
            refine PairsV.app (PairsV.stay (TupsStay.trans (Same.tups (Same.new nr)) (TupsStay.upd fun z => by rw [upd_ne (ne_of_none hl2 nr), hl2]; intro w; cases w)) hg) (PairsV.one ?_)
            rw [upd_ne (ne_of_none hl2 nr).symm, upd_same]
        · have h1 : ¬ b = y := fun z => h1 (decide_eq_true (congrArg V.int z))
          refine ⟨_, rfl, .inl ⟨rfl, _, SqL.of hl2⟩, _, rfl, _, rfl, _, _, rfl, rfl, (by show 2 ≤ sizeLine; decide), fun r nr => ?_⟩
          refine ⟨l, _, _, rfl, rfl, (by rw [upd_ne (ne_of_none hl2 nr)]; exact hl2), hz2, ?_⟩
          refine ⟨_, _, rfl, Same.mut (Same.mut s2 (s2.free nr)) nl, ?_, upd_same, ?_, by rw [List.length_append]; exact Nat.succ_le_succ lf⟩
          · rw [upd_ne nlq.symm, upd_ne (ne_of_none hq2 nr)]
            exact hq2
          · rw [stp, cpStep_snoc, if_neg h1]
            refine PairsV.app (PairsV.stay (app r nr) hf2) (PairsV.one ?_)
            rw [upd_ne (ne_of_none hl2 nr).symm, upd_same]
    · rintro σ H' ⟨fs, v2, rfl, s, hq, hl, hf, lf⟩
      rw [List.length_map, List.take_length] at hf
      rw [List.length_map] at lf
      refine ⟨_, rfl, .inl ⟨l, _, rfl, SqL.of hl, fun q2 nq2 => ?_⟩⟩
      obtain ⟨r1, r2, r3⟩ := cpF_ok st by'
      exact k _ q2 _ (Same.mut s (s.free nq2)) ⟨_, upd_same, PairsV.stay (Same.tups (Same.new nq2)) hf⟩ r1 r2 fun x => (r3 x).trans perm.mem_iff
theorem ok_law_drawn (T : Txt K mg C)  {f_law_draw : Addr} {fd_law_draw : FuncData} (D_law_draw : Cal P w K mg base 1 "_law_draw" ["_law_pot_here", "_law_many"] (spDraw) f_law_draw fd_law_draw) {f_law_any : Addr} {fd_law_any : FuncData} (D_law_any : Cal P w K mg base 2 "_law_any" ["_law_pot_here", "_law_items"] (spAny) f_law_any fd_law_any)  {f : Addr} {fd : FuncData} (F : FunD K "_law_drawn" "_law_drawn" (defArgs s_law_drawn) (defBody s_law_drawn) (defScope s_law_drawn) [] [] f fd) : FnOk P w K mg base CX0 3 f fd ["_law_pot_here", "_law_most", "_law_wide"] (spDrawn) := by
  refine F.ok sc_law_drawn (fun vs H Q E h => ?_) (fun cdv A outer s H vs Q E hr h => ?_)
  · obtain ⟨p, B, rfl, _⟩ := h
    rfl
  · have nd := sc_law_drawn.nd
    have hu := hu_of hr
    refine ⟨_, PSs.nox (pss_cons (ps_par (i := 3) (j := 4) (by rfl) nd rfl rfl (by decide) rfl rfl (pa_cons (pe_c D_law_any hr rfl (pa_cons (pv 0) (pa_cons (pe_lst (pa_cons pe_int (pa_cons pe_int (pa_cons pe_int (pa_cons pe_int (pa_cons pe_int pa_nil)))))) pa_nil))) (pa_cons (pe_lst pa_nil) pa_nil)) (by rfl))
      (pss_cons (ps_for PassesOwn.never rfl (pi_range1 rfl T.n_range (pa_cons (pe_c D_law_draw hr rfl (pa_cons (pv 0) (pa_cons (pe_op op_add (pv 1) pe_int) pa_nil))) pa_nil)) (pg_name (i := 5) nd rfl (by first | exact Or.inl rfl | exact Or.inr rfl)) (pss_cons (ps_set (i := 6) nd rfl (by first | exact Or.inl rfl | exact Or.inr rfl) (pe_op op_add (pv 3) (pe_c D_law_draw hr rfl (pa_cons (pv 0) (pa_cons (pv 2) pa_nil)))))
      (pss_one (ps_expr (pe_bm PySem.F.plainAttrs_list PySem.F.slot_list_append PySem.F.type_list_append mt_append (pv 4) (pa_cons (pe_tup (pa_cons (pv 6) (pa_cons (pe_op op_add (pe_op op_add (pv 6) pe_int) (pe_c D_law_draw hr rfl (pa_cons (pv 0) (pa_cons pe_int pa_nil)))) pa_nil))) pa_nil))))))
      (pss_one (ps_ret (pv 4))))), ?_⟩
    obtain ⟨p, B, rfl, hp, hB, k⟩ := h
    refine ⟨_, rfl, (by show 5 ≤ sizeLine; decide), fun l0 n0 => ?_⟩
    have np0 : l0 ≠ p := by
      obtain ⟨x, y, z, e, _⟩ := hp
      exact (ne_of_none e n0).symm
    refine ⟨p, l0, _, B, rfl, hp.same (Same.new n0), upd_same, np0, (by show 1 ≤ 5; decide), (by show 5 < 1073741824; decide), by omega, fun H1 x b1 p1 mx => ?_⟩
    have b1 : But p H H1 := But.trans (Same.but (Same.new n0) p) b1
    obtain ⟨base, rfl, ba0, ba1⟩ : ∃ i : Int, x = .int i ∧ 0 ≤ i ∧ i ≤ 999960 := by
      rcases List.mem_cons.mp mx with rfl | mx
      · exact ⟨_, rfl, by decide, by decide⟩
      rcases List.mem_cons.mp mx with rfl | mx
      · exact ⟨_, rfl, by decide, by decide⟩
      rcases List.mem_cons.mp mx with rfl | mx
      · exact ⟨_, rfl, by decide, by decide⟩
      rcases List.mem_cons.mp mx with rfl | mx
      · exact ⟨_, rfl, by decide, by decide⟩
      rcases List.mem_cons.mp mx with rfl | mx
      · exact ⟨_, rfl, by decide, by decide⟩
      cases mx
    refine ⟨Nat.zero_le _, fun l nl => ?_⟩
    have npl : l ≠ p := by
      obtain ⟨x, y, z, e, _⟩ := p1
      exact (ne_of_none e nl).symm
    have nlH : H l = none := b1.free npl nl
    have p2 : PotAt (upd H1 l (.lst [])) p (B + 1) := p1.same (Same.new nl)
    have b2 : But p H (upd H1 l (.lst [])) := b1.mut nlH
    have e2 : (upd H1 l (.lst [])) l = some (.lst []) := upd_same
    refine ⟨_, _, rfl, ?_⟩
    generalize upd H1 l (.lst []) = H2 at p2 b2 e2
    refine ⟨_, rfl, _, rfl, _, _, rfl, rfl, p, _, _, rfl, p2, (by decide), (by decide), by omega, fun H3 d b3 p3 d0 d1 => ?_⟩
    have d1 : d < 6 := d1
    have e3 := b3 _ _ npl e2
    have b3 : But p H H3 := But.trans b2 b3
    refine ⟨d, rfl, by omega, by omega, for_range (fun i σ H' => ∃ (fs : List V) (ps : List P2) (v5 v6 : Option V), σ = [some (.ref p), some (.int 5), some (.int 24), some (.int base), some (.ref l), v5, v6] ∧ But p H H' ∧ PotAt H' p (B + 2 + 2 * i) ∧ H' l = some (.lst fs) ∧ PairsV H' fs ps ∧ Oks ps ∧ (∀ q ∈ ps, q.2 - q.1 ≤ 9) ∧ ps.length = i)
      ⟨[], [], none, none, rfl, b3, p3.mono (by omega), e3, .nil, oks_nil, (fun q m => absurd m List.not_mem_nil), rfl⟩ ?_ ?_⟩
    · rintro i σ H4 hi ⟨fs, ps, v5, v6, rfl, b4, p4, e4, f4, o4, w4, l4⟩
      have hi5 : i < 5 := by omega
      have lf := PairsV.len f4
      refine ⟨_, rfl, _, rfl, _, rfl, p, 24, _, rfl, p4, (by decide), (by decide), by omega, fun H5 s5 b5 p5 s0 s1 => ?_⟩
      have e5 := b5 _ _ npl e4
      have f5 := PairsV.stay (p4.tups b5) f4
      have b5 := But.trans b4 b5
      refine ⟨_, _, rfl, rfl, ?_⟩
      refine ⟨_, rfl, .inl ⟨rfl, _, SqL.of e5⟩, _, rfl, _, rfl, _, _, rfl, rfl, _, rfl, p, 9, _, rfl, p5, (by decide), (by decide), by omega, fun H6 s6 b6 p6 t0 t1 => ?_⟩
      have e6 := b6 _ _ npl e5
      have f6 := PairsV.stay (p5.tups b6) f5
      have b6 := But.trans b5 b6
      refine ⟨_, _, rfl, rfl, (by show 2 ≤ sizeLine; decide), fun r nr => ?_⟩
      have nlr : l ≠ r := ne_of_none e6 nr
      have npr : p ≠ r := by
        obtain ⟨x, y, z, e, _⟩ := p6
        exact ne_of_none e nr
      have hz : 10 < sizeLine := by decide
      refine ⟨l, fs, _, rfl, rfl, (by rw [upd_ne nlr]; exact e6), by omega, ?_⟩
      refine ⟨fs ++ [.ref r], ps ++ [(base + s5, base + s5 + 1 + s6)], _, _, rfl, (b6.mut (b6.free npr.symm nr)).mut nlH, ?_, upd_same, ?_, oks_app o4 (oks_one ⟨?_, ?_, ?_⟩), ?_, ?_⟩
      · obtain ⟨x, y, z, e, q⟩ := p6
        refine ⟨x, y, z, ?_, q.1, q.2.1, q.2.2.1, ?_⟩
        · rw [upd_ne npl.symm, upd_ne npr]
          exact e
        · have := q.2.2.2
          omega
      · refine PairsV.app (PairsV.stay (TupsStay.trans (Same.tups (Same.new nr)) (TupsStay.upd fun z => by rw [upd_ne nlr, e6]; intro w; cases w)) f6) (PairsV.one ?_)
        rw [upd_ne nlr.symm, upd_same]
      · show 0 ≤ base + s5
        omega
      · show base + s5 < base + s5 + 1 + s6
        omega
      · show base + s5 + 1 + s6 ≤ 1000000
        omega
      · intro q m
        rcases List.mem_append.mp m with m | m
        · exact w4 q m
        · rw [List.mem_singleton.mp m]
          show base + s5 + 1 + s6 - (base + s5) ≤ 9
          omega
      · rw [List.length_append, l4]
        rfl
    · rintro σ H4 ⟨fs, ps, v5, v6, rfl, b4, p4, e4, f4, o4, w4, l4⟩
      exact ⟨_, rfl, k _ l ps b4 (p4.mono (by omega)) npl nlH ⟨fs, e4, f4⟩ o4 w4 (by omega)⟩
theorem ok_law_of (T : Txt K mg C) (S : SpC P w K mg base C fI) {f_law_couples : Addr} {fd_law_couples : FuncData} (D_law_couples : Cal P w K mg base 1 "_law_couples" ["_law_places_here"] (spCouples) f_law_couples fd_law_couples)  {f : Addr} {fd : FuncData} (F : FunD K "_law_of" "_law_of" (defArgs s_law_of) (defBody s_law_of) (defScope s_law_of) [] [] f fd) : FnOk P w K mg base CX0 6 f fd ["_law_places_here"] (spOf C) := by
  refine F.ok sc_law_of (fun vs H Q E h => ?_) (fun cdv A outer s H vs Q E hr h => ?_)
  · obtain ⟨d, ks, rfl, _⟩ := h
    rfl
  · have nd := sc_law_of.nd
    have hu := hu_of hr
    refine ⟨_, PSs.nox (pss_cons (ps_set (i := 1) nd rfl (by first | exact Or.inl rfl | exact Or.inr rfl) (pe_sp0 S.toSpB hr rfl))
      (pss_cons (ps_for PassesOwn.never rfl (pi_tup (pe_c D_law_couples hr rfl (pa_cons (pv 0) pa_nil))) (pg_tup rfl (pgs_cons (pg_name (i := 2) nd rfl (by first | exact Or.inl rfl | exact Or.inr rfl)) (pgs_cons (pg_name (i := 3) nd rfl (by first | exact Or.inl rfl | exact Or.inr rfl)) pgs_nil))) (pss_one (ps_set (i := 1) nd rfl (by first | exact Or.inl rfl | exact Or.inr rfl) (pe_op (S.oOr hr) (pv 1) (pe_sp S.toSpB hr rfl (pa_cons (pe_tup (pa_cons (pv 2) (pa_cons (pv 3) pa_nil))) pa_nil))))))
      (pss_one (ps_ret (pv 1))))), ?_⟩
    obtain ⟨d, ks, rfl, hd, nk, bk, lk, k⟩ := h
    refine set_sp0 fun H1 a u s1 sp cov => ?_
    refine ⟨_, rfl, d, ks, rfl, s1 _ _ hd, nk, bk, by omega, fun H2 t us s2 ht can ok cv => ?_⟩
    obtain ⟨xs, htx, hx⟩ := ht
    have lx := PairsV.len hx
    refine ⟨t, rfl, ⟨_, SqT.of htx⟩, for_tup (K := K) (a := t) (xs := xs) (fun i σ H' => ∃ (a : Addr) (ps : List P2) (v2 v3 : Option V), σ = [some (.ref d), some (.ref a), v2, v3] ∧ Same H2 H' ∧ SpAt C H' a ps ∧ (∀ x, covers ps x ↔ covers (us.take i) x))
      ⟨a, u, none, none, rfl, Same.refl _, sp.same s2, (fun x => cov x)⟩ (fun i σ H' _ ⟨_, _, _, _, _, s, _⟩ => SqT.of (s _ _ htx)) ?_ ?_⟩
    · rintro i x σ H' hi ⟨a, ps, v2, v3, rfl, s, spa, cva⟩
      obtain ⟨p, hp, t1, rfl, ht1⟩ := PairsV.get (PairsV.stay (Same.tups s) hx) hi
      have hpm := List.mem_of_getElem? hp
      refine ⟨t1, _, rfl, SqT.of ht1, rfl, _, _, rfl, _, _, rfl, rfl, ?_⟩
      refine ⟨_, rfl, _, rfl, _, rfl, (by show 2 ≤ sizeLine; decide), fun r nr => ?_⟩
      refine made_sp (vs := [.ref r]) (ps := [p]) (PairsV.one upd_same) (oks_one (ok p hpm)) (by show 1 < sizeLine; decide) fun H3 a2 u2 s3 sp2 cov2 => ?_
      have s03 : Same H' H3 := (Same.new nr).trans s3
      have c1 : cnt ps ≤ 999 := by
        have := cnt_keys (ps := ps) (ks := ks) fun x h => by
          obtain ⟨q, m, z⟩ := (cva x).mp h
          exact (cv x).mp ⟨q, List.mem_of_mem_take m, z⟩
        omega
      have c2 : cnt u2 ≤ 999 := by
        have := cnt_keys (ps := u2) (ks := ks) fun x h => by
          obtain ⟨q, m, z⟩ := (cov2 x).mp h
          rw [List.mem_singleton.mp m] at z
          exact (cv x).mp ⟨p, hpm, z⟩
        omega
      refine own_or (spa.same s03) sp2 c1 c2 fun H4 a3 u3 s4 sp3 cov3 => ?_
      refine ⟨a3, u3, _, _, rfl, s.trans (s03.trans s4), sp3, fun x => ?_⟩
      rw [cov3 x, cva x, cov2 x, List.take_add_one, hp, covers_append]
      exact Iff.rfl
    · rintro σ H' ⟨a, ps, v2, v3, rfl, s, spa, cva⟩
      rw [lx, List.take_length] at cva
      exact ⟨_, rfl, k _ a ps (s1.trans (s2.trans s)) spa fun x => (cva x).trans (cv x)⟩
theorem ok_law_two_right (T : Txt K mg C) (S : SpC P w K mg base C fI) {f_law_couples : Addr} {fd_law_couples : FuncData} (D_law_couples : Cal P w K mg base 1 "_law_couples" ["_law_places_here"] (spCouples) f_law_couples fd_law_couples) {f_law_of : Addr} {fd_law_of : FuncData} (D_law_of : Cal P w K mg base 6 "_law_of" ["_law_places_here"] (spOf C) f_law_of fd_law_of)  {f : Addr} {fd : FuncData} (F : FunD K "_law_two_right" "_law_two_right" (defArgs s_law_two_right) (defBody s_law_two_right) (defScope s_law_two_right) [] [] f fd) : FnOk P w K mg base CX0 7 f fd ["_law_one", "_law_other", "_law_here", "_law_there"] (spTwo C) := by
  refine F.ok sc_law_two_right (fun vs H Q E h => ?_) (fun cdv A outer s H vs Q E hr h => ?_)
  · obtain ⟨a, b, d, e, ps, qs, ks, ls, rfl, _⟩ := h
    rfl
  · have nd := sc_law_two_right.nd
    have hu := hu_of hr
    refine ⟨_, PSs.nox (pss_cons (ps_set (i := 4) nd rfl (by first | exact Or.inl rfl | exact Or.inr rfl) (pe_callTy (call_dictP rfl) (by rfl) T.n_dict (by decide +kernel) (pa_cons (pe_lock (pe_lc (own := [("_law_spot", 5)]) (g := (gName 5)) rfl nd (pi_keys (pv 2)) (blkOk_by (N := N_law_two_right) (sc := defScope s_law_two_right) (own := [("_law_spot", 5)]) (by decide +kernel)) (fun _ _ _ _ _ => (pg_name (i := 5) nd rfl (by first | exact Or.inl rfl | exact Or.inr rfl))) (fun _ _ _ _ _ => pts_one (pt_cmp (pc_din hu (pv 5) (pv 3)) rfl)) (fun _ _ _ _ _ => (pe_tup (pa_cons (pv 5) (pa_cons pe_bl pa_nil)))))) pa_nil)))
      (pss_cons (ps_set (i := 6) nd rfl (by first | exact Or.inl rfl | exact Or.inr rfl) (pe_callTy (call_dictP rfl) (by rfl) T.n_dict (by decide +kernel) (pa_cons (pe_lock (pe_lc (own := [("_law_spot", 5)]) (g := (gName 5)) rfl nd (pi_keys (pv 2)) (blkOk_by (N := N_law_two_right) (sc := defScope s_law_two_right) (own := [("_law_spot", 5)]) (by decide +kernel)) (fun _ _ _ _ _ => (pg_name (i := 5) nd rfl (by first | exact Or.inl rfl | exact Or.inr rfl))) (fun _ _ _ _ _ => pts_one (pt_cmp (pc_dnotin hu (pv 5) (pv 3)) rfl)) (fun _ _ _ _ _ => (pe_tup (pa_cons (pv 5) (pa_cons pe_bl pa_nil)))))) pa_nil)))
      (pss_cons (ps_set (i := 7) nd rfl (by first | exact Or.inl rfl | exact Or.inr rfl) (pe_lst (pa_cons (pe_fld (pe_op (S.oAnd hr) (pv 0) (pv 1)) rfl) (pa_cons (pe_fld (pe_op (S.oOr hr) (pv 0) (pv 1)) rfl) (pa_cons (pe_fld (pe_op (S.oSub hr) (pv 0) (pv 1)) rfl) pa_nil)))))
      (pss_cons (ps_set (i := 8) nd rfl (by first | exact Or.inl rfl | exact Or.inr rfl) (pe_lst (pa_cons (pe_c D_law_couples hr rfl (pa_cons (pv 4) pa_nil)) (pa_cons (pe_c D_law_couples hr rfl (pa_cons (pe_callTy (call_dictP rfl) (by rfl) T.n_dict (by decide +kernel) (pa_cons (pe_op op_cat (LiI.pe_listItems rfl (pv 2) (by rfl) T.n_list (by decide +kernel)) (LiI.pe_listItems rfl (pv 3) (by rfl) T.n_list (by decide +kernel))) pa_nil)) pa_nil)) (pa_cons (pe_c D_law_couples hr rfl (pa_cons (pv 6) pa_nil)) pa_nil)))))
      (pss_cons (ps_if (PW.pt (pw_or (pt_cmpR (op_neD hr.units) (pv 7) (pv 8) (nomark _)) (pw_or1 (pt_cmpR op_ne (pe_cmpR (S.oEq hr) (pv 0) (pv 1) (nomark _)) (pe_cmpR (op_eqSet hr.units0) (pv 2) (pv 3) (nomark _)) (nomark _))))) (pss_one (ps_ret pe_bl)) pss_nil)
      (pss_one (ps_ret (pe_and (pe_not (pe_cmpR (S.oEq hr) (pv 0) (pe_fld (pv 0) rfl) (nomark _))) (pe_and (pe_not (pe_cmpR (S.oEq hr) (pv 0) pe_int (nomark _))) (pe_one (pe_cmpR (S.oEq hr) (pv 0) (pe_c D_law_of hr rfl (pa_cons (pv 2) pa_nil)) (nomark _)))))))))))), ?_⟩
    obtain ⟨a, b, d, e, ps, qs, ks, ls, rfl, a0, b0, hd, he, nk, nl, ck, cl, lk, ll, k⟩ := h
    have hz : 1000 < sizeLine := by decide
    refine ⟨d, .dK (setK ks), hd, trivial, fun od => ⟨_, rfl, d, od, rfl, .inl ⟨setK ks, upd_same, ?_⟩⟩⟩
    intro D nD
    have rd : ∀ H' : Hp, Same (upd H d (.frz od (.dK (setK ks)))) H' → Rd H' e (.dK (setK ls)) := fun H' s => by
      by_cases c : e = d
      · rw [c] at he ⊢
        have z := s d _ upd_same
        rw [hd] at he
        have z2 : HO.dK (setK ks) = HO.dK (setK ls) := Option.some.inj he
        exact .inr ⟨od, by rw [z, z2]⟩
      · exact .inl (s e _ (by rw [upd_ne c]; exact he))
    have nDd : D ≠ d := fun z => by rw [z, upd_same] at nD; cases nD
    refine lc_keys (f := fun x => decide (x ∈ ls)) (ks := ks) (od := od) (d := d) upd_same nD (by omega) (fun H' x acc Nx mx s eD lacc ht hf => ?_) (fun H1 as s1 eD pas => ?_)
    · refine ⟨rfl, _, rfl, _, rfl, e, _, rfl, .inl ⟨setK ls, .inl x, rd H' s, rfl, rfl⟩, _, rfl, ?_⟩
      rw [setK_val]
      by_cases c : x ∈ ls
      · rw [if_pos c]
        show if true = true then _ else _
        refine iteT ?_
        refine ⟨_, rfl, (by show 2 ≤ sizeLine; decide), fun r nr => ?_⟩
        exact ⟨acc, (by rw [upd_ne (ne_of_none eD nr)]; exact eD), lacc, ht (decide_eq_true c) r nr⟩
      · rw [if_neg c]
        show if false = true then _ else _
        exact iteF (hf (decide_eq_false c))
    refine ⟨s1 _ _ upd_same, ?_⟩
    have s2 : Same H (upd H1 d (.dK (setK ks))) := Same.unlock hd s1
    have e2 : (upd H1 d (.dK (setK ks))) D = some (.lst (as.map V.ref)) := by rw [upd_ne nDd]; exact eD
    have p2 := pair_up (unlock_tups (w := .dK (setK ks)) (s1 _ _ upd_same)) pas
    generalize upd H1 d (.dK (setK ks)) = H2 at s2 e2 p2
    refine ⟨D, as, _, rfl, SqL.of e2, pair_sq p2, fun m nm => ?_⟩
    rw [merge_nil]
    have s3 : Same H (upd H2 m (.dK (setK (addAll [] (ks.filter fun x => decide (x ∈ ls)))))) := Same.mut s2 (s2.free nm)
    have em3 : (upd H2 m (.dK (setK (addAll [] (ks.filter fun x => decide (x ∈ ls)))))) m = some (.dK (setK (addAll [] (ks.filter fun x => decide (x ∈ ls))))) := upd_same
    show (fun H3 : Hp => _) (upd H2 m (.dK (setK (addAll [] (ks.filter fun x => decide (x ∈ ls))))))
    generalize upd H2 m (.dK (setK (addAll [] (ks.filter fun x => decide (x ∈ ls))))) = H3 at s3 em3
    clear nD rd nDd s1 eD pas s2 e2 p2
    have hd3 := s3 _ _ hd
    have he3 := s3 _ _ he
    refine ⟨d, .dK (setK ks), hd3, trivial, fun od => ⟨_, rfl, d, od, rfl, .inl ⟨setK ks, upd_same, ?_⟩⟩⟩
    intro D nD
    have rd : ∀ H' : Hp, Same (upd H3 d (.frz od (.dK (setK ks)))) H' → Rd H' e (.dK (setK ls)) := fun H' s => by
      by_cases c : e = d
      · rw [c] at he3 ⊢
        have z := s d _ upd_same
        rw [hd3] at he3
        have z2 : HO.dK (setK ks) = HO.dK (setK ls) := Option.some.inj he3
        exact .inr ⟨od, by rw [z, z2]⟩
      · exact .inl (s e _ (by rw [upd_ne c]; exact he3))
    have nDd : D ≠ d := fun z => by rw [z, upd_same] at nD; cases nD
    refine lc_keys (f := fun x => !decide (x ∈ ls)) (ks := ks) (od := od) (d := d) upd_same nD (by omega) (fun H' x acc Nx mx s eD lacc ht hf => ?_) (fun H4 as2 s1 eD pas => ?_)
    · refine ⟨rfl, _, rfl, _, rfl, e, _, rfl, .inl ⟨setK ls, .inl x, rd H' s, rfl, rfl⟩, _, rfl, ?_⟩
      rw [setK_val]
      by_cases c : x ∈ ls
      · rw [if_pos c]
        show if false = true then _ else _
        exact iteF (hf (by rw [decide_eq_true c]; rfl))
      · rw [if_neg c]
        show if true = true then _ else _
        refine iteT ?_
        refine ⟨_, rfl, (by show 2 ≤ sizeLine; decide), fun r nr => ?_⟩
        exact ⟨acc, (by rw [upd_ne (ne_of_none eD nr)]; exact eD), lacc, ht (by rw [decide_eq_false c]; rfl) r nr⟩
    refine ⟨s1 _ _ upd_same, ?_⟩
    have s2 : Same H3 (upd H4 d (.dK (setK ks))) := Same.unlock hd3 s1
    have e2 : (upd H4 d (.dK (setK ks))) D = some (.lst (as2.map V.ref)) := by rw [upd_ne nDd]; exact eD
    have p2 := pair_up (unlock_tups (w := .dK (setK ks)) (s1 _ _ upd_same)) pas
    generalize upd H4 d (.dK (setK ks)) = H5 at s2 e2 p2
    refine ⟨D, as2, _, rfl, SqL.of e2, pair_sq p2, fun lf nlf => ?_⟩
    rw [merge_nil]
    have s6 : Same H3 (upd H5 lf (.dK (setK (addAll [] (ks.filter fun x => !decide (x ∈ ls)))))) := Same.mut s2 (s2.free nlf)
    have el6 : (upd H5 lf (.dK (setK (addAll [] (ks.filter fun x => !decide (x ∈ ls)))))) lf = some (.dK (setK (addAll [] (ks.filter fun x => !decide (x ∈ ls))))) := upd_same
    show (fun H3 : Hp => _) (upd H5 lf (.dK (setK (addAll [] (ks.filter fun x => !decide (x ∈ ls))))))
    generalize upd H5 lf (.dK (setK (addAll [] (ks.filter fun x => !decide (x ∈ ls))))) = H6 at s6 el6
    clear nD rd nDd s1 eD pas s2 e2 p2
    have em6 := s6 _ _ em3
    have sH : Same H H6 := s3.trans s6
    have cps : cnt ps ≤ 45 := Nat.le_trans (cnt_keys fun x h => (ck x).mp h) lk
    have cqs : cnt qs ≤ 45 := Nat.le_trans (cnt_keys fun x h => (cl x).mp h) ll
    have bk : ∀ x ∈ ks, 0 ≤ x ∧ x < 1000000 := fun x m => covers_in a0.oks ((ck x).mpr m)
    have bl : ∀ x ∈ ls, 0 ≤ x ∧ x < 1000000 := fun x m => covers_in b0.oks ((cl x).mpr m)
    have a6 := a0.same sH
    have b6 := b0.same sH
    refine ⟨_, rfl, _, rfl, own_and a6 b6 (by omega) (by omega) fun H7 r1 u1 m1 t1 v1 => ?_⟩
    obtain ⟨⟨dx1, ta1, f1, tp1⟩, can1, ok1⟩ := t1
    refine ⟨r1, C, dx1, _, _, rfl, f1, T.cl, T.nP, spF_pairs _ _, ?_⟩
    refine ⟨_, rfl, _, rfl, own_or (a6.same m1) (b6.same m1) (by omega) (by omega) fun H8 r2 u2 m2 t2 v2 => ?_⟩
    obtain ⟨⟨dx2, ta2, f2, tp2⟩, can2, ok2⟩ := t2
    refine ⟨r2, C, dx2, _, _, rfl, f2, T.cl, T.nP, spF_pairs _ _, ?_⟩
    refine ⟨_, rfl, _, rfl, own_sub (a6.same (m1.trans m2)) (b6.same (m1.trans m2)) (by omega) (by omega) fun H9 r3 u3 m3 t3 v3 => ?_⟩
    obtain ⟨⟨dx3, ta3, f3, tp3⟩, can3, ok3⟩ := t3
    refine ⟨r3, C, dx3, _, _, rfl, f3, T.cl, T.nP, spF_pairs _ _, ?_⟩
    refine ⟨by show 3 ≤ sizeLine; decide, fun L nL => ?_⟩
    have s9 : Same H6 H9 := (m1.trans m2).trans m3
    have tp1 := (tp1.same (m2.trans m3)).same (Same.new (o := .lst [.ref ta1, .ref ta2, .ref ta3]) nL)
    have tp2 := (tp2.same m3).same (Same.new (o := .lst [.ref ta1, .ref ta2, .ref ta3]) nL)
    have tp3 := tp3.same (Same.new (o := .lst [.ref ta1, .ref ta2, .ref ta3]) nL)
    have s10 : Same H6 (upd H9 L (.lst [.ref ta1, .ref ta2, .ref ta3])) := Same.mut s9 (s9.free nL)
    have eL : (upd H9 L (.lst [.ref ta1, .ref ta2, .ref ta3])) L = some (.lst [.ref ta1, .ref ta2, .ref ta3]) := upd_same
    show (fun H3 : Hp => _) (upd H9 L (.lst [.ref ta1, .ref ta2, .ref ta3]))
    generalize upd H9 L (.lst [.ref ta1, .ref ta2, .ref ta3]) = H10 at tp1 tp2 tp3 s10 eL
    clear f1 f2 f3 m1 m2 m3 s9 nL
    have q1 := filter_nodup (f := fun x => decide (x ∈ ls)) nk
    have q2 := filter_nodup (f := fun x => !decide (x ∈ ls)) nk
    have z1 := addAll_nil_len (l := ks.filter fun x => decide (x ∈ ls))
    have z2 := filter_len (f := fun x => decide (x ∈ ls)) (l := ks)
    have z3 := addAll_nil_len (l := ks.filter fun x => !decide (x ∈ ls))
    have z4 := filter_len (f := fun x => !decide (x ∈ ls)) (l := ks)
    refine ⟨_, rfl, m, _, rfl, s10 _ _ em6, addAll_nodup List.nodup_nil, (fun x mx => bk x ((List.mem_filter.mp (addAll_nil.mp mx)).1)), by omega, fun H11 y1 w1 n1 g1 c1 o1 x1 => ?_⟩
    have sA : Same H10 H11 := n1
    have sB : Same H H11 := (sH.trans s10).trans sA
    refine ⟨_, rfl, d, _, rfl, sB _ _ hd, fun H12 l1 as1 n2 nl1 nts1 _ hl1 pr1 => ?_⟩
    have n2 : Same H11 H12 := n2
    refine ⟨_, rfl, e, _, rfl, (sB.trans n2) _ _ he, fun H13 l2 as2 n3 nl2 nts2 _ hl2 pr2 => ?_⟩
    have n3 : Same H12 H13 := n3
    have ea1 : as1.length = ks.length := by
      rw [Paired.length pr1, setK_len]
    have ea2 : as2.length = ls.length := by
      rw [Paired.length pr2, setK_len]
    refine ⟨l1, l2, _, _, rfl, rfl, n3 _ _ hl1, hl2, (by rw [List.length_map, List.length_map]; omega), fun q nq => ?_⟩
    rw [← List.map_append]
    have n4 : Same H13 (upd H13 q (.lst ((as1 ++ as2).map V.ref))) := Same.new nq
    have eq4 : (upd H13 q (.lst ((as1 ++ as2).map V.ref))) q = some (.lst ((as1 ++ as2).map V.ref)) := upd_same
    show (fun H3 : Hp => _) (upd H13 q (.lst ((as1 ++ as2).map V.ref)))
    generalize upd H13 q (.lst ((as1 ++ as2).map V.ref)) = H14 at n4 eq4
    have pr := paired_app (pair_up (Same.tups (n3.trans n4)) pr1) (pair_up (Same.tups n4) pr2)
    refine ⟨q, as1 ++ as2, _, rfl, SqL.of eq4, pair_sq pr, fun dd ndd => ?_⟩
    rw [setK_append, merge_nil]
    have n5 : Same H14 (upd H14 dd (.dK (setK (addAll [] (ks ++ ls))))) := Same.new ndd
    have ed5 : (upd H14 dd (.dK (setK (addAll [] (ks ++ ls))))) dd = some (.dK (setK (addAll [] (ks ++ ls)))) := upd_same
    show (fun H3 : Hp => _) (upd H14 dd (.dK (setK (addAll [] (ks ++ ls)))))
    generalize upd H14 dd (.dK (setK (addAll [] (ks ++ ls)))) = H15 at n5 ed5
    have z5 := addAll_nil_len (l := ks ++ ls)
    rw [List.length_append] at z5
    refine ⟨dd, _, rfl, ed5, addAll_nodup List.nodup_nil, (fun x mx => (List.mem_append.mp (addAll_nil.mp mx)).elim (bk x) (bl x)), by omega, fun H16 y2 w2 n6 g2 c2 o2 x2 => ?_⟩
    have sC : Same H11 H16 := (((n2.trans n3).trans n4).trans n5).trans n6
    refine ⟨_, rfl, lf, _, rfl, (s10.trans (sA.trans sC)) _ _ el6, addAll_nodup List.nodup_nil, (fun x mx => bk x ((List.mem_filter.mp (addAll_nil.mp mx)).1)), by omega, fun H17 y3 w3 n7 g3 c3 o3 x3 => ?_⟩
    refine ⟨by show 3 ≤ sizeLine; decide, fun M nM => ?_⟩
    have sD : Same H10 H17 := (sA.trans sC).trans n7
    have n8 : Same H17 (upd H17 M (.lst [.ref y1, .ref y2, .ref y3])) := Same.new nM
    have eM : (upd H17 M (.lst [.ref y1, .ref y2, .ref y3])) M = some (.lst [.ref y1, .ref y2, .ref y3]) := upd_same
    show (fun H3 : Hp => _) (upd H17 M (.lst [.ref y1, .ref y2, .ref y3]))
    generalize upd H17 M (.lst [.ref y1, .ref y2, .ref y3]) = H18 at n8 eM
    have sE : Same H10 H18 := sD.trans n8
    have sF : Same H H18 := (sH.trans s10).trans sE
    have g1 := g1.same (sC.trans (n7.trans n8))
    have g2 := g2.same (n7.trans n8)
    have g3 := g3.same n8
    have tp1 := tp1.same sE
    have tp2 := tp2.same sE
    have tp3 := tp3.same sE
    have u1e : u1 = w1 := canon_unique can1 c1 fun x => by
      rw [v1, x1, addAll_nil, List.mem_filter, ck, cl, decide_eq_true_iff]
    have u2e : u2 = w2 := canon_unique can2 c2 fun x => by
      rw [v2, x2, addAll_nil, List.mem_append, ck, cl]
    have u3e : u3 = w3 := canon_unique can3 c3 fun x => by
      rw [v3, x3, addAll_nil, List.mem_filter, ck, cl, Bool.not_eq_true', decide_eq_false_iff_not]
    subst u1e u2e u3e
    refine ⟨_, rfl, _, rfl, dL3 u1 u2 u3, dL3 u1 u2 u3, dp_L3 (sE _ _ eL) tp1 tp2 tp3, dp_L3 eM g1 g2 g3, shaped_dL3 _ _ _, shaped_dL3 _ _ _, false, by rw [eqv_dL3]; rfl, iteF ?_⟩
    have a18 := a0.same sF
    have b18 := b0.same sF
    refine ⟨_, rfl, _, rfl, own_eq T a18 b18 ⟨_, rfl, _, rfl, d, e, ks, ls, rfl, rfl, sF _ _ hd, sF _ _ he, rfl, false, ?_, iteF ?_⟩⟩
    · have eq : decide (ps = qs) = (ks.length == ls.length && ks.all fun k => decide (k ∈ ls)) := by
        rw [Bool.eq_iff_iff, decide_eq_true_iff, same_keys nk nl]
        constructor
        · intro h x
          rw [← ck, ← cl, h]
        · intro h
          exact canon_unique a0.canon b0.canon fun x => by rw [ck, cl]; exact h x
      rw [Bool.false_xor, ← eq, decide_eq_true rfl]
      rfl
    have a19 := a18
    obtain ⟨⟨dx, ta, fa, xs, ea, _⟩, _⟩ := a19
    refine ⟨_, rfl, _, rfl, a, C, dx, _, _, rfl, fa, T.cl, T.nP, spF_pairs _ _, own_eq0 T a18 ea ⟨false, rfl, true, rfl, ?_⟩⟩
    show if true = true then _ else _
    refine iteT ?_
    refine ⟨_, rfl, own_eqI T a18 ⟨false, rfl, true, rfl, ?_⟩⟩
    show if true = true then _ else _
    refine iteT ?_
    refine ⟨_, rfl, _, rfl, d, ks, rfl, sF _ _ hd, nk, bk, by omega, fun H19 ao uo m9 t9 v9 => own_eqT T (a18.same m9) t9 (fun x => by rw [ck, v9]) (k _ (sF.trans m9))⟩
theorem ok_law_rules_right (T : Txt K mg C) (S : SpC P w K mg base C fI)   {f : Addr} {fd : FuncData} (F : FunD K "_law_rules_right" "_law_rules_right" (defArgs s_law_rules_right) (defBody s_law_rules_right) (defScope s_law_rules_right) [] [] f fd) : FnOk P w K mg base CX0 6 f fd ["_law_one", "_law_other", "_law_third"] (spRules C) := by
  refine F.ok sc_law_rules_right (fun vs H Q E h => ?_) (fun cdv A outer s H vs Q E hr h => ?_)
  · obtain ⟨a, b, c, ps, qs, rs, rfl, _⟩ := h
    rfl
  · have nd := sc_law_rules_right.nd
    have hu := hu_of hr
    refine ⟨_, PSs.nox (pss_cons (ps_if (PW.pt (pw_or (pt_not (pt_cmpR (S.oEq hr) (pe_op (S.oAnd hr) (pv 0) (pv 1)) (pe_op (S.oAnd hr) (pv 1) (pv 0)) (nomark _))) (pw_or1 (pt_not (pt_cmpR (S.oEq hr) (pe_op (S.oOr hr) (pv 0) (pe_op (S.oOr hr) (pv 1) (pv 2))) (pe_op (S.oOr hr) (pe_op (S.oOr hr) (pv 0) (pv 1)) (pv 2)) (nomark _)))))) (pss_one (ps_ret pe_bl)) pss_nil)
      (pss_cons (ps_if (PW.pt (pw_or (pt_not (pt_cmpR (S.oEq hr) (pe_op (S.oAnd hr) (pv 0) (pe_op (S.oOr hr) (pv 1) (pv 2))) (pe_op (S.oOr hr) (pe_op (S.oAnd hr) (pv 0) (pv 1)) (pe_op (S.oAnd hr) (pv 0) (pv 2))) (nomark _))) (pw_or1 (pt_not (pt_cmpR (S.oEq hr) (pe_op (S.oSub hr) (pv 0) (pe_op (S.oOr hr) (pv 1) (pv 2))) (pe_op (S.oSub hr) (pe_op (S.oSub hr) (pv 0) (pv 1)) (pv 2)) (nomark _)))))) (pss_one (ps_ret pe_bl)) pss_nil)
      (pss_cons (ps_if (PW.pt (pw_or (pt_not (pt_cmpR (S.oEq hr) (pe_op (S.oSub hr) (pv 0) (pe_op (S.oSub hr) (pv 0) (pv 1))) (pe_op (S.oAnd hr) (pv 0) (pv 1)) (nomark _))) (pw_or (pt_not (pt_cmpR (S.oEq hr) (pe_op (S.oOr hr) (pv 0) (pe_sp0 S.toSpB hr rfl)) (pv 0) (nomark _))) (pw_or1 (pt_not (pt_cmpR (S.oEq hr) (pe_op (S.oSub hr) (pv 0) (pv 0)) (pe_sp0 S.toSpB hr rfl) (nomark _))))))) (pss_one (ps_ret pe_bl)) pss_nil)
      (pss_cons (ps_if (pt_cmpR op_ne (pe_op op_add (pe_callB (S.oLen hr) (by rfl) T.n_len (by decide +kernel) (pa_cons (pe_op (S.oOr hr) (pv 0) (pv 1)) pa_nil)) (pe_callB (S.oLen hr) (by rfl) T.n_len (by decide +kernel) (pa_cons (pe_op (S.oAnd hr) (pv 0) (pv 1)) pa_nil))) (pe_op op_add (pe_callB (S.oLen hr) (by rfl) T.n_len (by decide +kernel) (pa_cons (pv 0) pa_nil)) (pe_callB (S.oLen hr) (by rfl) T.n_len (by decide +kernel) (pa_cons (pv 1) pa_nil))) (nomark _)) (pss_one (ps_ret pe_bl)) pss_nil)
      (pss_one (ps_ret (pe_cmpR op_eq (pe_callB (S.oLen hr) (by rfl) T.n_len (by decide +kernel) (pa_cons (pe_op (S.oSub hr) (pv 0) (pv 1)) pa_nil)) (pe_op op_sub (pe_callB (S.oLen hr) (by rfl) T.n_len (by decide +kernel) (pa_cons (pv 0) pa_nil)) (pe_callB (S.oLen hr) (by rfl) T.n_len (by decide +kernel) (pa_cons (pe_op (S.oAnd hr) (pv 0) (pv 1)) pa_nil))) (nomark _)))))))), ?_⟩
    obtain ⟨a, b, c, ps, qs, rs, rfl, a0, b0, c0, ca, cb, cc, k⟩ := h
    refine ⟨_, rfl, _, rfl, own_and a0 b0 (by omega) (by omega) fun H1 r1 u1 m1 t1 v1 => ⟨_, rfl, _, rfl, own_and (b0.same m1) (a0.same m1) (by omega) (by omega) fun H2 r2 u2 m2 t2 v2 => own_eqT T (t1.same m2) t2 (fun x => by rw [v1, v2]; exact and_comm) ⟨true, rfl, ?_⟩⟩⟩
    have mm : Same H H2 := m1.trans m2
    have a0 := a0.same mm
    have b0 := b0.same mm
    have c0 := c0.same mm
    clear m1 m2 v1 v2 t1 t2 r1 r2 u1 u2
    show if (!true) = true then _ else _
    refine test_no ?_
    refine ⟨_, rfl, _, rfl, _, rfl, own_or b0 c0 (by omega) (by omega) fun H3 r1 u1 m1 t1 v1 => own_or (a0.same m1) t1 (by omega) (Nat.le_trans (cnt_or_le v1) (by omega)) fun H4 r2 u2 m2 t2 v2 => ?_⟩
    refine ⟨_, rfl, _, rfl, own_or (a0.same (m1.trans m2)) (b0.same (m1.trans m2)) (by omega) (by omega) fun H5 r3 u3 m3 t3 v3 => ⟨_, rfl, own_or t3 (c0.same ((m1.trans m2).trans m3)) (Nat.le_trans (cnt_or_le v3) (by omega)) (by omega) fun H6 r4 u4 m4 t4 v4 => own_eqT T (t2.same (m3.trans m4)) t4 (fun x => by rw [v2, v1, v4, v3, or_assoc]) ⟨true, rfl, ?_⟩⟩⟩
    have mx : Same H2 H6 := (m1.trans m2).trans (m3.trans m4)
    have mm : Same H H6 := mm.trans mx
    have a0 := a0.same mx
    have b0 := b0.same mx
    have c0 := c0.same mx
    clear m1 m2 v1 v2 t1 t2 r1 r2 u1 u2 m3 m4 v3 v4 t3 t4 r3 r4 u3 u4
    refine iteNo ?_
    refine ⟨_, rfl, _, rfl, _, rfl, own_or b0 c0 (by omega) (by omega) fun H3 r1 u1 m1 t1 v1 => own_and (a0.same m1) t1 (by omega) (Nat.le_trans (cnt_or_le v1) (by omega)) fun H4 r2 u2 m2 t2 v2 => ?_⟩
    refine ⟨_, rfl, _, rfl, own_and (a0.same (m1.trans m2)) (b0.same (m1.trans m2)) (by omega) (by omega) fun H5 r3 u3 m3 t3 v3 => ⟨_, rfl, _, rfl, own_and (a0.same ((m1.trans m2).trans m3)) (c0.same ((m1.trans m2).trans m3)) (by omega) (by omega) fun H7 r5 u5 m5 t5 v5 => ?_⟩⟩
    have c3 : cnt u3 ≤ cnt ps := cnt_mono fun x h => ((v3 x).mp h).1
    have c5 : cnt u5 ≤ cnt ps := cnt_mono fun x h => ((v5 x).mp h).1
    refine own_or (t3.same m5) t5 (by omega) (by omega) fun H8 r6 u6 m6 t6 v6 => own_eqT T (t2.same (m3.trans (m5.trans m6))) t6 (fun x => by rw [v2, v1, v6, v3, v5, and_or_left]) ⟨true, rfl, ?_⟩
    have mx : Same H6 H8 := (m1.trans m2).trans (m3.trans (m5.trans m6))
    have mm : Same H H8 := mm.trans mx
    have a0 := a0.same mx
    have b0 := b0.same mx
    have c0 := c0.same mx
    clear m1 m2 v1 v2 t1 t2 r1 r2 u1 u2 m3 v3 t3 r3 c3 c5 u3 m5 v5 t5 r5 u5 m6 v6 t6 r6 u6
    show if (!true) = true then _ else _
    refine test_no ?_
    refine ⟨_, rfl, _, rfl, _, rfl, own_or b0 c0 (by omega) (by omega) fun H3 r1 u1 m1 t1 v1 => own_sub (a0.same m1) t1 (by omega) (Nat.le_trans (cnt_or_le v1) (by omega)) fun H4 r2 u2 m2 t2 v2 => ?_⟩
    refine ⟨_, rfl, _, rfl, own_sub (a0.same (m1.trans m2)) (b0.same (m1.trans m2)) (by omega) (by omega) fun H5 r3 u3 m3 t3 v3 => ?_⟩
    have c3 : cnt u3 ≤ cnt ps := cnt_mono fun x h => ((v3 x).mp h).1
    refine ⟨_, rfl, own_sub t3 (c0.same ((m1.trans m2).trans m3)) (by omega) (by omega) fun H9 r4 u4 m4 t4 v4 => own_eqT T (t2.same (m3.trans m4)) t4 (fun x => by rw [v2, v1, v4, v3, not_or, and_assoc]) ⟨true, rfl, ?_⟩⟩
    have mx : Same H8 H9 := (m1.trans m2).trans (m3.trans m4)
    have mm : Same H H9 := mm.trans mx
    have a0 := a0.same mx
    have b0 := b0.same mx
    have c0 := c0.same mx
    clear m1 m2 v1 v2 t1 t2 r1 r2 u1 u2 m3 m4 v3 v4 t3 t4 c3 r3 r4 u3 u4
    refine iteNo ?_
    refine ⟨_, rfl, _, rfl, _, rfl, own_sub a0 b0 (by omega) (by omega) fun H3 r1 u1 m1 t1 v1 => ?_⟩
    have c1 : cnt u1 ≤ cnt ps := cnt_mono fun x h => ((v1 x).mp h).1
    refine own_sub (a0.same m1) t1 (by omega) (by omega) fun H4 r2 u2 m2 t2 v2 => ?_
    refine ⟨_, rfl, _, rfl, own_and (a0.same (m1.trans m2)) (b0.same (m1.trans m2)) (by omega) (by omega) fun H10 r3 u3 m3 t3 v3 => own_eqT T (t2.same m3) t3 (fun x => by rw [v2, v1, v3, Classical.not_and_iff_not_or_not, Classical.not_not, and_or_left]; exact ⟨fun h => h.elim (fun z => absurd z.1 z.2) id, .inr⟩) ⟨true, rfl, ?_⟩⟩
    have mx : Same H9 H10 := (m1.trans m2).trans m3
    have mm : Same H H10 := mm.trans mx
    have a0 := a0.same mx
    have b0 := b0.same mx
    have c0 := c0.same mx
    clear m1 m2 v1 v2 t1 t2 c1 r1 r2 u1 u2 m3 v3 t3 r3 u3
    show if (!true) = true then _ else _
    refine test_no ?_
    refine ⟨_, rfl, mk_sp0 fun H3 r1 u1 m1 t1 v1 => own_or (a0.same m1) t1 (by omega) (Nat.le_trans (cnt_mono (qs := []) fun x h => (v1 x).mp h) (by rw [M1.cnt_nil]; omega)) fun H4 r2 u2 m2 t2 v2 => ⟨_, rfl, own_eqT T t2 (a0.same (m1.trans m2)) (fun x => by rw [v2, v1]; exact ⟨fun h => h.elim id fun z => absurd z covers_nil, .inl⟩) ⟨true, rfl, ?_⟩⟩⟩
    have mx : Same H10 H4 := m1.trans m2
    have mm : Same H H4 := mm.trans mx
    have a0 := a0.same mx
    have b0 := b0.same mx
    have c0 := c0.same mx
    clear m1 m2 v1 v2 t1 t2 r1 r2 u1 u2
    show if (!true) = true then _ else _
    refine test_no ?_
    refine ⟨_, rfl, _, rfl, own_sub a0 a0 (by omega) (by omega) fun H11 r1 u1 m1 t1 v1 => mk_sp0 fun H12 r2 u2 m2 t2 v2 => own_eqT T (t1.same m2) t2 (fun x => by rw [v1, v2]; exact ⟨fun h => absurd h.1 h.2, fun h => absurd h covers_nil⟩) ⟨true, rfl, ?_⟩⟩
    have mx : Same H4 H12 := m1.trans m2
    have mm : Same H H12 := mm.trans mx
    have a0 := a0.same mx
    have b0 := b0.same mx
    have c0 := c0.same mx
    clear m1 m2 v1 v2 t1 t2 r1 r2 u1 u2
    refine iteNo ?_
    refine ⟨_, rfl, _, rfl, own_or a0 b0 (by omega) (by omega) fun H13 r1 u1 m1 t1 v1 => own_lenN t1 fun H14 m2 => ⟨_, rfl, _, rfl, own_and (a0.same (m1.trans m2)) (b0.same (m1.trans m2)) (by omega) (by omega) fun H15 r2 u2 m3 t2 v2 => own_lenN t2 fun H16 m4 => ⟨_, _, rfl, rfl, ?_⟩⟩⟩
    have mx : Same H12 H16 := (m1.trans m2).trans (m3.trans m4)
    have mm : Same H H16 := mm.trans mx
    have a0 := a0.same mx
    have b0 := b0.same mx
    have ce := cnt_or_and v1 v2
    clear m1 m2 m3 m4 t1 t2 c0
    refine ⟨_, rfl, own_lenN a0 fun H17 m1 => ⟨_, rfl, own_lenN (b0.same m1) fun H18 m2 => ⟨_, _, rfl, rfl, rfl, false, ?_, iteF ?_⟩⟩⟩
    · refine congrArg V.bl ?_
      rw [decide_eq_true (congrArg V.int (by omega))]
      rfl
    have mx : Same H16 H18 := m1.trans m2
    have mm : Same H H18 := mm.trans mx
    have a0 := a0.same mx
    have b0 := b0.same mx
    clear m1 m2 ce v1 v2
    refine ⟨_, rfl, _, rfl, own_sub a0 b0 (by omega) (by omega) fun H19 r3 u3 m1 t1 v1 => own_lenN t1 fun H20 m2 => ?_⟩
    refine ⟨_, rfl, own_lenN (a0.same (m1.trans m2)) fun H21 m3 => ⟨_, rfl, _, rfl, own_and (a0.same ((m1.trans m2).trans m3)) (b0.same ((m1.trans m2).trans m3)) (by omega) (by omega) fun H22 r4 u4 m4 t4 v4 => own_lenN t4 fun H23 m5 => ⟨_, _, rfl, rfl, rfl, ?_⟩⟩⟩
    have ce : cnt ps = cnt u3 + cnt u4 := by
      refine cnt_split (fun x => ?_) (fun x h => ((v1 x).mp h.1).2 ((v4 x).mp h.2).2)
      rw [v1, v4]
      by_cases h : covers qs x
      · exact ⟨fun z => .inr ⟨z, h⟩, fun z => z.elim (fun y => y.1) fun y => y.1⟩
      · exact ⟨fun z => .inl ⟨z, h⟩, fun z => z.elim (fun y => y.1) fun y => y.1⟩
    rw [decide_eq_true (congrArg V.int (by omega))]
    exact k _ (mm.trans (((m1.trans m2).trans m3).trans (m4.trans m5)))
theorem ok_law_right (T : Txt K mg C) (S : SpC P w K mg base C fI) {f_law_any : Addr} {fd_law_any : FuncData} (D_law_any : Cal P w K mg base 2 "_law_any" ["_law_pot_here", "_law_items"] (spAny) f_law_any fd_law_any) {f_law_places : Addr} {fd_law_places : FuncData} (D_law_places : Cal P w K mg base 1 "_law_places" ["_law_couples_here"] (spPlaces) f_law_places fd_law_places) {f_law_drawn : Addr} {fd_law_drawn : FuncData} (D_law_drawn : Cal P w K mg base 3 "_law_drawn" ["_law_pot_here", "_law_most", "_law_wide"] (spDrawn) f_law_drawn fd_law_drawn) {f_law_of : Addr} {fd_law_of : FuncData} (D_law_of : Cal P w K mg base 6 "_law_of" ["_law_places_here"] (spOf C) f_law_of fd_law_of) {f_law_two_right : Addr} {fd_law_two_right : FuncData} (D_law_two_right : Cal P w K mg base 7 "_law_two_right" ["_law_one", "_law_other", "_law_here", "_law_there"] (spTwo C) f_law_two_right fd_law_two_right) {f_law_rules_right : Addr} {fd_law_rules_right : FuncData} (D_law_rules_right : Cal P w K mg base 6 "_law_rules_right" ["_law_one", "_law_other", "_law_third"] (spRules C) f_law_rules_right fd_law_rules_right)  {f : Addr} {fd : FuncData} (F : FunD K "_law_right" "_law_right" (defArgs s_law_right) (defBody s_law_right) (defScope s_law_right) [] [] f fd) : FnOk P w K mg base CX0 8 f fd ["_law_pot_here"] (spRight) := by
  refine F.ok sc_law_right (fun vs H Q E h => ?_) (fun cdv A outer s H vs Q E hr h => ?_)
  · obtain ⟨p, rfl, _⟩ := h
    rfl
  · have nd := sc_law_right.nd
    have hu := hu_of hr
    refine ⟨_, PSs.nox (pss_cons (ps_for PassesOwn.never rfl (pi_range1 rfl T.n_range (pa_cons pe_int pa_nil)) (pg_name (i := 1) nd rfl (by first | exact Or.inl rfl | exact Or.inr rfl)) (pss_cons (ps_asg (pe_lc (own := [("_law_again", 5)]) (g := (gName 5)) (tt := tYes) rfl nd (pi_range1 rfl T.n_range (pa_cons pe_int pa_nil)) (blkOk_by (N := N_law_right) (sc := defScope s_law_right) (own := [("_law_again", 5)]) (by decide +kernel)) (fun _ _ _ _ _ => (pg_name (i := 5) nd rfl (by first | exact Or.inl rfl | exact Or.inr rfl))) (fun _ _ _ _ _ => pts_nil) (fun _ _ _ _ _ => (pe_c D_law_places hr rfl (pa_cons (pe_c D_law_drawn hr rfl (pa_cons (pv 0) (pa_cons pe_int (pa_cons pe_int pa_nil)))) pa_nil)))) (pg_unl rfl (pgs_cons (pg_name (i := 2) nd rfl (by first | exact Or.inl rfl | exact Or.inr rfl)) (pgs_cons (pg_name (i := 3) nd rfl (by first | exact Or.inl rfl | exact Or.inr rfl)) (pgs_cons (pg_name (i := 4) nd rfl (by first | exact Or.inl rfl | exact Or.inr rfl)) pgs_nil)))))
      (pss_cons (ps_set (i := 3) nd rfl (by first | exact Or.inl rfl | exact Or.inr rfl) (pe_c D_law_any hr rfl (pa_cons (pv 0) (pa_cons (pe_lst (pa_cons (pv 3) (pa_cons (pv 3) (pa_cons (pe_callTy (call_dictP rfl) (by rfl) T.n_dict (by decide +kernel) (pa_cons (LiI.pe_listItems rfl (pv 2) (by rfl) T.n_list (by decide +kernel)) pa_nil)) pa_nil)))) pa_nil))))
      (pss_cons (ps_par3 (i := 6) (j := 7) (l := 8) (by rfl) nd rfl rfl rfl (by decide) (by decide) (by decide) rfl rfl rfl (pa_cons (pe_c D_law_of hr rfl (pa_cons (pv 2) pa_nil)) (pa_cons (pe_c D_law_of hr rfl (pa_cons (pv 3) pa_nil)) (pa_cons (pe_c D_law_of hr rfl (pa_cons (pv 4) pa_nil)) pa_nil))) (by rfl))
      (pss_cons (ps_if (PW.pt (pw_or (pt_not (pt_val (pe_c D_law_two_right hr rfl (pa_cons (pv 6) (pa_cons (pv 7) (pa_cons (pv 2) (pa_cons (pv 3) pa_nil))))))) (pw_or1 (pt_not (pt_val (pe_c D_law_rules_right hr rfl (pa_cons (pv 6) (pa_cons (pv 7) (pa_cons (pv 8) pa_nil))))))))) (pss_one (ps_ret pe_bl)) pss_nil)
      (pss_cons (ps_set (i := 5) nd rfl (by first | exact Or.inl rfl | exact Or.inr rfl) (pe_sp0 S.toSpB hr rfl))
      (pss_cons (ps_for PassesOwn.never rfl (pi_tup (pe_revT (pe_fld (pv 6) rfl))) (pg_name (i := 9) nd rfl (by first | exact Or.inl rfl | exact Or.inr rfl)) (pss_one (ps_set (i := 5) nd rfl (by first | exact Or.inl rfl | exact Or.inr rfl) (pe_op (S.oOr hr) (pe_sp S.toSpB hr rfl (pa_cons (pv 9) pa_nil)) (pv 5)))))
      (pss_one (ps_if (pt_not (pt_cmpR (S.oEq hr) (pv 5) (pv 6) (nomark _))) (pss_one (ps_ret pe_bl)) pss_nil)))))))))
      (pss_one (ps_ret pe_bl))), ?_⟩
    obtain ⟨p, rfl, hp, k⟩ := h
    refine ⟨30, rfl, by decide, by decide, for_range (fun i σ H' => ∃ v1 v2 v3 v4 v5 v6 v7 v8 v9 : Option V, σ = [some (.ref p), v1, v2, v3, v4, v5, v6, v7, v8, v9] ∧ But p H H' ∧ PotAt H' p (61 * i)) ⟨none, none, none, none, none, none, none, none, none, rfl, But.refl p H, hp.mono (by omega)⟩ ?_ ?_⟩
    · rintro i σ H1 hi ⟨v1, v2, v3, v4, v5, v6, v7, v8, v9, rfl, b1, p1⟩
      have hi : i < 30 := hi
      refine ⟨3, rfl, by decide, by decide, ?_⟩
      intro D nD
      have nDp : D ≠ p := by
        obtain ⟨x, y, z, e, _⟩ := p1
        exact (ne_of_none e nD).symm
      have hz : 100 < sizeLine := by decide
      refine lc_it (n := 3) (fun j H2 => ∃ (ds : List Addr) (kss : List (List Int)), But p H H2 ∧ PotAt H2 p (61 * i + 20 * j) ∧ H2 D = some (.lst (ds.map V.ref)) ∧ Paired (DctP H2) ds kss ∧ ds.length = j)
        ⟨[], [], b1.mut (b1.free nDp nD), (p1.same (Same.new nD)).mono (by omega), upd_same, .nil, rfl⟩ (fun j H2 hj _ => hj) (fun H2 _ => Nat.le_refl _) ?_ ?_
      · rintro j H2 x H3 hj ⟨ds, kss, b2, p2, e2, q2, l2⟩ ⟨rfl, rfl⟩
        refine ⟨rfl, yesT ?_⟩
        refine ⟨_, rfl, p, _, rfl, p2, by omega, fun H4 l ps b4 p4 nlp nl hl o w9 l5 => ?_⟩
        refine ⟨l, ps, rfl, hl, o, w9, l5, fun H5 d ks s5 nd hd nk mk lk => ?_⟩
        have s5 : Same H4 H5 := s5
        have b4 : But p H3 H4 := b4
        have e4 := b4 _ _ nDp e2
        have e5 := s5 _ _ e4
        have dne : D ≠ d := ne_of_none e4 nd
        refine ⟨ds.map V.ref, e5, by rw [List.length_map]; omega, ?_⟩
        have dp : DctP H5 d ks := ⟨hd, nk, fun x m => covers_in o ((mk x).mp m), lk⟩
        have p5 := p4.same s5
        have b5 : But p H H5 := (b2.trans b4).trans (Same.but s5 p)
        have kp : ∀ d1 k1, DctP H5 d1 k1 → DctP (upd H5 D (.lst (ds.map V.ref ++ [.ref d]))) d1 k1 := fun d1 k1 h => ⟨by rw [upd_ne (fun c => by have := h.1; rw [c, e5] at this; cases this)]; exact h.1, h.2⟩
        refine ⟨ds ++ [d], kss ++ [ks], b5.mut (b1.free nDp nD), ?_, (by rw [upd_same, List.map_append]; rfl), paired_app (Paired.imp2 (fun d1 k1 h => kp d1 k1 ((h.but p2 b4).same s5)) q2) (.cons (kp d ks dp) .nil), by rw [List.length_append, l2]; rfl⟩
        obtain ⟨x, y, z, e, r1, r2, r3, r4⟩ := p5
        exact ⟨x, y, z, by rw [upd_ne nDp.symm]; exact e, r1, r2, r3, by omega⟩
      · rintro H2 ⟨ds, kss, b2, p2, e2, q2, l2⟩
        obtain ⟨d1, d2, d3, k1, k2, k3, rfl, h1, h2, h3⟩ := Paired.three q2 l2
        refine ⟨D, _, rfl, SqL.of e2, rfl, _, _, rfl, _, _, rfl, _, _, rfl, rfl, ?_⟩
        refine ⟨_, rfl, _, rfl, _, rfl, _, rfl, d1, _, rfl, h1.1, fun H3 l ts s3 nl nts _ hl pr => ?_⟩
        have s3 : Same H2 H3 := s3
        refine ⟨l, ts, _, rfl, SqL.of hl, pair_sq pr, fun dd ndd => ?_⟩
        rw [merge_nil]
        have s4 : Same H3 (upd H3 dd (.dK (setK (addAll [] k1)))) := Same.new ndd
        have e4 : (upd H3 dd (.dK (setK (addAll [] k1)))) dd = some (.dK (setK (addAll [] k1))) := upd_same
        generalize upd H3 dd (.dK (setK (addAll [] k1))) = H4 at s4 e4
        refine ⟨by show 3 ≤ sizeLine; decide, fun L nL => ?_⟩
        have s25 : Same H2 (upd H4 L (.lst [.ref d2, .ref d2, .ref dd])) := Same.mut (s3.trans s4) ((s3.trans s4).free nL)
        have p5 := p2.same s25
        have nLp : L ≠ p := by
          obtain ⟨x, y, z, e, _⟩ := p2.same (s3.trans s4)
          exact (ne_of_none e nL).symm
        have e5 : (upd H4 L (.lst [.ref d2, .ref d2, .ref dd])) L = some (.lst [.ref d2, .ref d2, .ref dd]) := upd_same
        have s45 : Same H4 (upd H4 L (.lst [.ref d2, .ref d2, .ref dd])) := Same.new nL
        generalize upd H4 L (.lst [.ref d2, .ref d2, .ref dd]) = H5 at s25 p5 e5 s45
        refine ⟨p, L, _, _, rfl, p5, e5, nLp, (by show 1 ≤ 3; decide), (by show 3 < 1073741824; decide), by omega, fun H6 x b6 p6 mx => ?_⟩
        have b6 : But p H5 H6 := b6
        have h1 := (h1.same s25).but p5 b6
        have h2 := (h2.same s25).but p5 b6
        have h3 := (h3.same s25).but p5 b6
        have z1 := addAll_nil_len (l := k1)
        have hdd : DctP H5 dd (addAll [] k1) := ⟨s45 _ _ e4, addAll_nodup List.nodup_nil, fun x m => h1.2.2.1 x (addAll_nil.mp m), Nat.le_trans z1 h1.2.2.2⟩
        have hdd := hdd.but p5 b6
        obtain ⟨dt, kt, rfl, ht⟩ : ∃ dt kt, x = .ref dt ∧ DctP H6 dt kt := by
          rcases List.mem_cons.mp mx with rfl | mx
          · exact ⟨_, _, rfl, h2⟩
          rcases List.mem_cons.mp mx with rfl | mx
          · exact ⟨_, _, rfl, h2⟩
          rcases List.mem_cons.mp mx with rfl | mx
          · exact ⟨_, _, rfl, hdd⟩
          cases mx
        have b26 : But p H H6 := (b2.trans (Same.but s25 p)).trans b6
        clear hdd h2 z1 e5 s45 nLp nL s4 e4 ndd pr hl nts nl
        refine ⟨_, rfl, d1, k1, rfl, h1.1, h1.2.1, h1.2.2.1, Nat.le_trans h1.2.2.2 (by decide), fun H7 a1 u1 s7 t1 w1 => ?_⟩
        refine ⟨_, rfl, dt, kt, rfl, (ht.same s7).1, ht.2.1, ht.2.2.1, Nat.le_trans ht.2.2.2 (by decide), fun H8 a2 u2 s8 t2 w2 => ?_⟩
        refine ⟨_, rfl, d3, k3, rfl, ((h3.same s7).same s8).1, h3.2.1, h3.2.2.1, Nat.le_trans h3.2.2.2 (by decide), fun H9 a3 u3 s9 t3 w3 => ?_⟩
        have s69 : Same H6 H9 := (s7.trans s8).trans s9
        have t1 := t1.same (s8.trans s9)
        have t2 := t2.same s9
        refine ⟨_, _, _, rfl, ?_⟩
        refine ⟨_, rfl, _, rfl, _, rfl, _, rfl, a1, a2, d1, dt, u1, u2, k1, kt, rfl, t1, t2, (h1.same s69).1, (ht.same s69).1, h1.2.1, ht.2.1, w1, w2, h1.2.2.2, ht.2.2.2, fun H10 s10 => ⟨true, rfl, ?_⟩⟩
        show if (!true) = true then _ else _
        refine test_no ?_
        have c1 : cnt u1 ≤ 45 := Nat.le_trans (cnt_keys fun x h => (w1 x).mp h) h1.2.2.2
        have c2 : cnt u2 ≤ 45 := Nat.le_trans (cnt_keys fun x h => (w2 x).mp h) ht.2.2.2
        have c3 : cnt u3 ≤ 45 := Nat.le_trans (cnt_keys fun x h => (w3 x).mp h) h3.2.2.2
        refine ⟨_, rfl, _, rfl, _, rfl, a1, a2, a3, u1, u2, u3, rfl, t1.same s10, t2.same s10, t3.same s10, by omega, by omega, by omega, fun H11 s11 => ⟨true, rfl, ?_⟩⟩
        refine iteNo ?_
        have s6B : Same H6 H11 := s69.trans (s10.trans s11)
        have t1 := t1.same (s10.trans s11)
        refine set_sp0 fun H12 ag ug s12 tg wg => ?_
        have t1 := t1.same s12
        have t1' := t1
        obtain ⟨⟨dx, ta, f1, xs, hta, hx⟩, can, ok⟩ := t1'
        refine ⟨_, rfl, a1, C, dx, _, _, rfl, f1, T.cl, T.nP, spF_pairs _ _, ta, xs, rfl, SqT.of hta, fun rv nrv => ?_⟩
        have s13 : Same H12 (upd H12 rv (.tup xs.reverse)) := Same.new nrv
        have er : (upd H12 rv (.tup xs.reverse)) rv = some (.tup xs.reverse) := upd_same
        have hr13 := PairsV.rev (PairsV.stay (Same.tups s13) hx)
        refine ⟨rv, rfl, ⟨_, SqT.of er⟩, ?_⟩
        have tg := tg.same s13
        have t1 := t1.same s13
        generalize upd H12 rv (.tup xs.reverse) = H13 at s13 er hr13 tg t1
        have lr := PairsV.len hr13
        refine for_tup (K := K) (a := rv) (xs := xs.reverse) (fun j σ H' => ∃ (ag : Addr) (ps : List P2) (w1 w2 w3 w4 w7 w8 w9 : Option V), σ = [some (.ref p), w1, w2, w3, w4, some (.ref ag), some (.ref a1), w7, w8, w9] ∧ Same H13 H' ∧ SpAt C H' ag ps ∧ ∀ x, covers ps x ↔ covers (u1.reverse.take j) x)
          ⟨ag, ug, _, _, _, _, _, _, _, rfl, Same.refl _, tg, wg⟩ (fun j σ H' _ ⟨_, _, _, _, _, _, _, _, _, _, s, _⟩ => SqT.of (s _ _ er)) ?_ ?_
        · rintro j x σ H' hj ⟨ag, ps, w1, w2, w3, w4, w7, w8, w9, rfl, s, spa, cva⟩
          obtain ⟨q, hq, tq, rfl, htq⟩ := PairsV.get (PairsV.stay (Same.tups s) hr13) hj
          have qm : q ∈ u1 := List.mem_reverse.mp (List.mem_of_getElem? hq)
          have cps : cnt ps ≤ cnt u1 := cnt_mono fun x h => by
            obtain ⟨r, m, z⟩ := (cva x).mp h
            exact ⟨r, List.mem_reverse.mp (List.mem_of_mem_take m), z⟩
          refine ⟨_, rfl, ?_⟩
          refine made_sp (vs := [.ref tq]) (ps := [q]) (PairsV.one htq) (oks_one (ok q qm)) (by show 1 < sizeLine; decide) fun H3 a5 u5 s3 sp5 cov5 => ?_
          have c5 : cnt u5 ≤ cnt u1 := cnt_mono fun x h => by
            obtain ⟨r, m, z⟩ := (cov5 x).mp h
            rw [List.mem_singleton.mp m] at z
            exact ⟨q, qm, z⟩
          refine ⟨_, rfl, own_or sp5 (spa.same s3) (by omega) (by omega) fun H4 a6 u6 s4 sp6 cov6 => ?_⟩
          refine ⟨a6, u6, _, _, _, _, _, _, _, rfl, s.trans (s3.trans s4), sp6, fun x => ?_⟩
          rw [cov6 x, cva x, cov5 x, List.take_add_one, hq, covers_append]
          exact or_comm
        · rintro σ H' ⟨ag, ps, w1, w2, w3, w4, w7, w8, w9, rfl, s, spa, cva⟩
          rw [lr, List.take_length] at cva
          refine ⟨_, rfl, _, rfl, own_eqT T spa (t1.same s) (fun x => (cva x).trans (covers_perm (List.reverse_perm u1))) ⟨true, rfl, ?_⟩⟩
          refine iteNo ?_
          have s6E : Same H6 H' := (s6B.trans s12).trans (s13.trans s)
          exact ⟨_, _, _, _, _, _, _, _, _, rfl, b26.trans (Same.but s6E p), (p6.same s6E).mono (by omega)⟩
    · rintro σ H1 ⟨v1, v2, v3, v4, v5, v6, v7, v8, v9, rfl, b1, p1⟩
      exact k _ b1
theorem ok_law (T : Txt K mg C)  {f_law_pot : Addr} {fd_law_pot : FuncData} (D_law_pot : Cal P w K mg base 1 "_law_pot" ["_law_script", "_law_k"] (spPot K) f_law_pot fd_law_pot) {f_law_right : Addr} {fd_law_right : FuncData} (D_law_right : Cal P w K mg base 8 "_law_right" ["_law_pot_here"] (spRight) f_law_right fd_law_right)  {f : Addr} {fd : FuncData} (F : FunD K "law" "law" (defArgs s_law) (defBody s_law) (defScope s_law) [] [] f fd) : FnOk P w K mg base CX0 9 f fd ["_law_script"] (spLaw K) := by
  refine F.ok sc_law (fun vs H Q E h => ?_) (fun cdv A outer s H vs Q E hr h => ?_)
  · obtain ⟨a, ns, rfl, _⟩ := h
    rfl
  · have nd := sc_law.nd
    have hu := hu_of hr
    refine ⟨_, PSs.nox (pss_cons (ps_for PassesOwn.never rfl (pi_range1 rfl T.n_range (pa_cons (pe_callB (call_max2 rfl) (by rfl) T.n_max (by decide +kernel) (pa_cons pe_int (pa_cons (pe_callB (call_min2 rfl) (by rfl) T.n_min (by decide +kernel) (pa_cons pe_int (pa_cons (pe_callB call_len (by rfl) T.n_len (by decide +kernel) (pa_cons (pv 0) pa_nil)) pa_nil))) pa_nil))) pa_nil)) (pg_name (i := 1) nd rfl (by first | exact Or.inl rfl | exact Or.inr rfl)) (pss_one (ps_if (pt_not (pt_val (pe_c D_law_right hr rfl (pa_cons (pe_c D_law_pot hr rfl (pa_cons (pv 0) (pa_cons (pv 1) pa_nil))) pa_nil)))) (pss_one (ps_ret pe_bl)) pss_nil)))
      (pss_one (ps_ret pe_bl))), ?_⟩
    obtain ⟨a, ns, rfl, ha, q⟩ := h
    obtain ⟨j, ej, j1, j3⟩ := turns (((ns.map V.int).length : Nat) : Int) (Int.natCast_nonneg _)
    refine ⟨_, rfl, _, _, rfl, .inl ⟨_, ha, rfl⟩, _, _, rfl, _, _, rfl, ?_⟩
    refine ⟨_, rfl, ?_⟩
    show _ ≤ (if (if (((ns.map V.int).length : Nat) : Int) < 3 then (((ns.map V.int).length : Nat) : Int) else 3) > 1 then (if (((ns.map V.int).length : Nat) : Int) < 3 then (((ns.map V.int).length : Nat) : Int) else 3) else 1) ∧ _
    rw [ej]
    refine ⟨by omega, by omega, ?_⟩
    refine for_range (fun i σ H' => ∃ v1 : Option V, σ = [some (.ref a), v1] ∧ Same H H') ⟨none, rfl, Same.refl H⟩ ?_ ?_
    · rintro i σ H1 hi ⟨v1, rfl, s1⟩
      refine ⟨_, rfl, _, rfl, a, ns, _, rfl, s1.seq ha, by omega, by omega, fun H2 l nl s2 pl => ?_⟩
      refine ⟨l, rfl, pl, fun H3 b3 => ⟨true, rfl, ?_⟩⟩
      refine iteNo ?_
      exact ⟨_, rfl, Same.ofBut (s1.trans s2) (s1.free nl) b3⟩
    · rintro σ H1 ⟨v1, rfl, s1⟩
      exact q _
end
end S1

namespace S1
open PySem PySem.Spec PyProof.Rows L2 StX M1
theorem fd_mk {K : PySem.W.Frag} {x q : Str} {st : Stmt} {f : Addr} {od an : Option Addr} {sl : Array (Option Value)} {oc kV dc pm cd ct : Value} (l : K.lookup f = some ⟨oc, od, .func (PySem.W.fnOf x q (defArgs st) (defBody st) (defScope st) .none kV dc pm an cd ct), sl⟩)
    (c : PySem.W.codeIn K cd q = true) (k : PySem.W.keepIn K (.ref f) = true) : FunD K x q (defArgs st) (defBody st) (defScope st) [] [] f (PySem.W.fnOf x q (defArgs st) (defBody st) (defScope st) .none kV dc pm an cd ct) :=
  ⟨⟨_, _, _, _, _, _, _, _, _, _, rfl, l, c, .inl ⟨rfl, rfl⟩, .inl rfl⟩, k⟩
theorem all_mk {l : PySem.W.OpenLaw} {w : World} {K : PySem.W.Frag} {h : Heap} {mg : Str → Option Value} {fa C f0 f1 f2 f3 f4 f5 f6 f7 f8 f9 f10 f11 f12 f13 f14 f15 f16 f17 f18 f19 f20 f21  : Addr} (X : K.In h) (G : h.Ns mainGlobals mg) (hfa : mg "law" = some (.ref fa))
    {od0 an0 od1 an1 od2 an2 od3 an3 od4 an4 od5 an5 od6 an6 od7 an7 od8 an8 od9 an9 od10 an10 od11 an11 od12 an12 od13 an13 od14 an14 od15 an15 od16 an16 od17 an17 od18 an18 od19 an19 od20 an20 od21 an21 : Option Addr} {sl0 sl1 sl2 sl3 sl4 sl5 sl6 sl7 sl8 sl9 sl10 sl11 sl12 sl13 sl14 sl15 sl16 sl17 sl18 sl19 sl20 sl21 : Array (Option Value)} {oc0 kV0 dc0 pm0 cd0 ct0 oc1 kV1 dc1 pm1 cd1 ct1 oc2 kV2 dc2 pm2 cd2 ct2 oc3 kV3 dc3 pm3 cd3 ct3 oc4 kV4 dc4 pm4 cd4 ct4 oc5 kV5 dc5 pm5 cd5 ct5 oc6 kV6 dc6 pm6 cd6 ct6 oc7 kV7 dc7 pm7 cd7 ct7 oc8 kV8 dc8 pm8 cd8 ct8 oc9 kV9 dc9 pm9 cd9 ct9 oc10 kV10 dc10 pm10 cd10 ct10 oc11 kV11 dc11 pm11 cd11 ct11 oc12 kV12 dc12 pm12 cd12 ct12 oc13 kV13 dc13 pm13 cd13 ct13 oc14 kV14 dc14 pm14 cd14 ct14 oc15 kV15 dc15 pm15 cd15 ct15 oc16 kV16 dc16 pm16 cd16 ct16 oc17 kV17 dc17 pm17 cd17 ct17 oc18 kV18 dc18 pm18 cd18 ct18 oc19 kV19 dc19 pm19 cd19 ct19 oc20 kV20 dc20 pm20 cd20 ct20 oc21 kV21 dc21 pm21 cd21 ct21 : Value} {tP tM : Tok}
    (aC : PySem.W.nsIn K mainGlobals "Spans" = some (some (.ref C)))
    (z_int : PySem.W.nsIn K mainGlobals "int" = some none)
    (z_bool : PySem.W.nsIn K mainGlobals "bool" = some none)
    (z_tuple : PySem.W.nsIn K mainGlobals "tuple" = some none)
    (z_list : PySem.W.nsIn K mainGlobals "list" = some none)
    (z_dict : PySem.W.nsIn K mainGlobals "dict" = some none)
    (z_len : PySem.W.nsIn K mainGlobals "len" = some none)
    (z_max : PySem.W.nsIn K mainGlobals "max" = some none)
    (z_min : PySem.W.nsIn K mainGlobals "min" = some none)
    (z_sum : PySem.W.nsIn K mainGlobals "sum" = some none)
    (z_all : PySem.W.nsIn K mainGlobals "all" = some none)
    (z_abs : PySem.W.nsIn K mainGlobals "abs" = some none)
    (z_sorted : PySem.W.nsIn K mainGlobals "sorted" = some none)
    (z_range : PySem.W.nsIn K mainGlobals "range" = some none)
    (z_zip : PySem.W.nsIn K mainGlobals "zip" = some none)
    (z_isinstance : PySem.W.nsIn K mainGlobals "isinstance" = some none)
    (gP : PySem.W.nsIn K mainGlobals "PAIR" = some (some (.int 2 tP)))
    (gM : PySem.W.nsIn K mainGlobals "MOST" = some (some (.int 1000000 tM)))
    (pg : PySem.W.plainGet K C Str.empty = true)
    (hd : PySem.W.hasDictIn K C = true)
    (po : PySem.W.plainOver K C = true)
    (sa : PySem.W.findIn K (.ref C) "__setattr__" = some (some (.builtin "object.__setattr__")))
    (mk : PySem.W.makesIn K C = true)
    (kc : PySem.W.keepIn K (.ref C) = true)
    (nP : PySem.W.findIn K (.ref C) "pairs" = some none)
    (nM : PySem.W.findIn K (.ref C) "many_positions" = some none)
    (t1 : PySem.W.findIn K (.ref C) "__class__" = some (some (.builtin "object.__class__")))
    (t2 : PySem.W.specialIn K (.builtin "object.__class__") "__get__" = some (some (.builtin "getset_descriptor.__get__")))
    (t3 : PySem.W.takesIn K (.builtin "object.__class__") = some true)
    (t4 : PySem.W.mroIn K C (.type "object") = some true)
    (kS : PySem.W.kitOne K (.ref C) (.ref C) = some true)
    (kT : PySem.W.kitOne K (.type "tuple") (.ref C) = some false)
    (kI : PySem.W.kitOne K (.type "int") (.ref C) = some false)
    (q1 : PySem.W.kitOne K (.type "int") (.type "int") = some true)
    (q2 : PySem.W.kitOne K (.type "int") (.type "bool") = some false)
    (q3 : PySem.W.kitOne K (.type "tuple") (.type "tuple") = some true)
    (r1 : PySem.W.notFirst K C (.ref C) = true)
    (r2 : PySem.W.notFirst K C (.type "tuple") = true)
    (r3 : PySem.W.notFirst K C (.type "int") = true)
    (sf : PySem.W.selfFirst K C = true)
    (a0 : PySem.W.nsIn K mainGlobals "is_integer" = some (some (.ref f0)))
    (l0 : K.lookup f0 = some ⟨oc0, od0, .func (PySem.W.fnOf "is_integer" "is_integer" (defArgs s_is_integer) (defBody s_is_integer) (defScope s_is_integer) .none kV0 dc0 pm0 an0 cd0 ct0), sl0⟩)
    (c0 : PySem.W.codeIn K cd0 "is_integer" = true)
    (k0 : PySem.W.keepIn K (.ref f0) = true)
    (a1 : PySem.W.nsIn K mainGlobals "is_span" = some (some (.ref f1)))
    (l1 : K.lookup f1 = some ⟨oc1, od1, .func (PySem.W.fnOf "is_span" "is_span" (defArgs s_is_span) (defBody s_is_span) (defScope s_is_span) .none kV1 dc1 pm1 an1 cd1 ct1), sl1⟩)
    (c1 : PySem.W.codeIn K cd1 "is_span" = true)
    (k1 : PySem.W.keepIn K (.ref f1) = true)
    (a2 : PySem.W.nsIn K mainGlobals "united" = some (some (.ref f2)))
    (l2 : K.lookup f2 = some ⟨oc2, od2, .func (PySem.W.fnOf "united" "united" (defArgs s_united) (defBody s_united) (defScope s_united) .none kV2 dc2 pm2 an2 cd2 ct2), sl2⟩)
    (c2 : PySem.W.codeIn K cd2 "united" = true)
    (k2 : PySem.W.keepIn K (.ref f2) = true)
    (a3 : PySem.W.nsIn K mainGlobals "shared" = some (some (.ref f3)))
    (l3 : K.lookup f3 = some ⟨oc3, od3, .func (PySem.W.fnOf "shared" "shared" (defArgs s_shared) (defBody s_shared) (defScope s_shared) .none kV3 dc3 pm3 an3 cd3 ct3), sl3⟩)
    (c3 : PySem.W.codeIn K cd3 "shared" = true)
    (k3 : PySem.W.keepIn K (.ref f3) = true)
    (a4 : PySem.W.nsIn K mainGlobals "rest_of" = some (some (.ref f4)))
    (l4 : K.lookup f4 = some ⟨oc4, od4, .func (PySem.W.fnOf "rest_of" "rest_of" (defArgs s_rest_of) (defBody s_rest_of) (defScope s_rest_of) .none kV4 dc4 pm4 an4 cd4 ct4), sl4⟩)
    (c4 : PySem.W.codeIn K cd4 "rest_of" = true)
    (k4 : PySem.W.keepIn K (.ref f4) = true)
    (a5 : PySem.W.findIn K (.ref C) "__init__" = some (some (.ref f5)))
    (i5 : PySem.W.isFn K (.ref f5) = true)
    (l5 : K.lookup f5 = some ⟨oc5, od5, .func (PySem.W.fnOf "__init__" "Spans.__init__" (defArgs s_Spans_init) (defBody s_Spans_init) (defScope s_Spans_init) .none kV5 dc5 pm5 an5 cd5 ct5), sl5⟩)
    (c5 : PySem.W.codeIn K cd5 "Spans.__init__" = true)
    (k5 : PySem.W.keepIn K (.ref f5) = true)
    (a6 : PySem.W.findIn K (.ref C) "__and__" = some (some (.ref f6)))
    (i6 : PySem.W.isFn K (.ref f6) = true)
    (l6 : K.lookup f6 = some ⟨oc6, od6, .func (PySem.W.fnOf "__and__" "Spans.__and__" (defArgs s_Spans_and) (defBody s_Spans_and) (defScope s_Spans_and) .none kV6 dc6 pm6 an6 cd6 ct6), sl6⟩)
    (c6 : PySem.W.codeIn K cd6 "Spans.__and__" = true)
    (k6 : PySem.W.keepIn K (.ref f6) = true)
    (a7 : PySem.W.findIn K (.ref C) "__or__" = some (some (.ref f7)))
    (i7 : PySem.W.isFn K (.ref f7) = true)
    (l7 : K.lookup f7 = some ⟨oc7, od7, .func (PySem.W.fnOf "__or__" "Spans.__or__" (defArgs s_Spans_or) (defBody s_Spans_or) (defScope s_Spans_or) .none kV7 dc7 pm7 an7 cd7 ct7), sl7⟩)
    (c7 : PySem.W.codeIn K cd7 "Spans.__or__" = true)
    (k7 : PySem.W.keepIn K (.ref f7) = true)
    (a8 : PySem.W.findIn K (.ref C) "__sub__" = some (some (.ref f8)))
    (i8 : PySem.W.isFn K (.ref f8) = true)
    (l8 : K.lookup f8 = some ⟨oc8, od8, .func (PySem.W.fnOf "__sub__" "Spans.__sub__" (defArgs s_Spans_sub) (defBody s_Spans_sub) (defScope s_Spans_sub) .none kV8 dc8 pm8 an8 cd8 ct8), sl8⟩)
    (c8 : PySem.W.codeIn K cd8 "Spans.__sub__" = true)
    (k8 : PySem.W.keepIn K (.ref f8) = true)
    (a9 : PySem.W.findIn K (.ref C) "__len__" = some (some (.ref f9)))
    (i9 : PySem.W.isFn K (.ref f9) = true)
    (l9 : K.lookup f9 = some ⟨oc9, od9, .func (PySem.W.fnOf "__len__" "Spans.__len__" (defArgs s_Spans_len) (defBody s_Spans_len) (defScope s_Spans_len) .none kV9 dc9 pm9 an9 cd9 ct9), sl9⟩)
    (c9 : PySem.W.codeIn K cd9 "Spans.__len__" = true)
    (k9 : PySem.W.keepIn K (.ref f9) = true)
    (a10 : PySem.W.findIn K (.ref C) "__eq__" = some (some (.ref f10)))
    (i10 : PySem.W.isFn K (.ref f10) = true)
    (l10 : K.lookup f10 = some ⟨oc10, od10, .func (PySem.W.fnOf "__eq__" "Spans.__eq__" (defArgs s_Spans_eq) (defBody s_Spans_eq) (defScope s_Spans_eq) .none kV10 dc10 pm10 an10 cd10 ct10), sl10⟩)
    (c10 : PySem.W.codeIn K cd10 "Spans.__eq__" = true)
    (k10 : PySem.W.keepIn K (.ref f10) = true)
    (a11 : PySem.W.nsIn K mainGlobals "_law_pot" = some (some (.ref f11)))
    (l11 : K.lookup f11 = some ⟨oc11, od11, .func (PySem.W.fnOf "_law_pot" "_law_pot" (defArgs s_law_pot) (defBody s_law_pot) (defScope s_law_pot) .none kV11 dc11 pm11 an11 cd11 ct11), sl11⟩)
    (c11 : PySem.W.codeIn K cd11 "_law_pot" = true)
    (k11 : PySem.W.keepIn K (.ref f11) = true)
    (a12 : PySem.W.nsIn K mainGlobals "_law_draw" = some (some (.ref f12)))
    (l12 : K.lookup f12 = some ⟨oc12, od12, .func (PySem.W.fnOf "_law_draw" "_law_draw" (defArgs s_law_draw) (defBody s_law_draw) (defScope s_law_draw) .none kV12 dc12 pm12 an12 cd12 ct12), sl12⟩)
    (c12 : PySem.W.codeIn K cd12 "_law_draw" = true)
    (k12 : PySem.W.keepIn K (.ref f12) = true)
    (a13 : PySem.W.nsIn K mainGlobals "_law_any" = some (some (.ref f13)))
    (l13 : K.lookup f13 = some ⟨oc13, od13, .func (PySem.W.fnOf "_law_any" "_law_any" (defArgs s_law_any) (defBody s_law_any) (defScope s_law_any) .none kV13 dc13 pm13 an13 cd13 ct13), sl13⟩)
    (c13 : PySem.W.codeIn K cd13 "_law_any" = true)
    (k13 : PySem.W.keepIn K (.ref f13) = true)
    (a14 : PySem.W.nsIn K mainGlobals "_law_places" = some (some (.ref f14)))
    (l14 : K.lookup f14 = some ⟨oc14, od14, .func (PySem.W.fnOf "_law_places" "_law_places" (defArgs s_law_places) (defBody s_law_places) (defScope s_law_places) .none kV14 dc14 pm14 an14 cd14 ct14), sl14⟩)
    (c14 : PySem.W.codeIn K cd14 "_law_places" = true)
    (k14 : PySem.W.keepIn K (.ref f14) = true)
    (a15 : PySem.W.nsIn K mainGlobals "_law_couples" = some (some (.ref f15)))
    (l15 : K.lookup f15 = some ⟨oc15, od15, .func (PySem.W.fnOf "_law_couples" "_law_couples" (defArgs s_law_couples) (defBody s_law_couples) (defScope s_law_couples) .none kV15 dc15 pm15 an15 cd15 ct15), sl15⟩)
    (c15 : PySem.W.codeIn K cd15 "_law_couples" = true)
    (k15 : PySem.W.keepIn K (.ref f15) = true)
    (a16 : PySem.W.nsIn K mainGlobals "_law_drawn" = some (some (.ref f16)))
    (l16 : K.lookup f16 = some ⟨oc16, od16, .func (PySem.W.fnOf "_law_drawn" "_law_drawn" (defArgs s_law_drawn) (defBody s_law_drawn) (defScope s_law_drawn) .none kV16 dc16 pm16 an16 cd16 ct16), sl16⟩)
    (c16 : PySem.W.codeIn K cd16 "_law_drawn" = true)
    (k16 : PySem.W.keepIn K (.ref f16) = true)
    (a17 : PySem.W.nsIn K mainGlobals "_law_of" = some (some (.ref f17)))
    (l17 : K.lookup f17 = some ⟨oc17, od17, .func (PySem.W.fnOf "_law_of" "_law_of" (defArgs s_law_of) (defBody s_law_of) (defScope s_law_of) .none kV17 dc17 pm17 an17 cd17 ct17), sl17⟩)
    (c17 : PySem.W.codeIn K cd17 "_law_of" = true)
    (k17 : PySem.W.keepIn K (.ref f17) = true)
    (a18 : PySem.W.nsIn K mainGlobals "_law_two_right" = some (some (.ref f18)))
    (l18 : K.lookup f18 = some ⟨oc18, od18, .func (PySem.W.fnOf "_law_two_right" "_law_two_right" (defArgs s_law_two_right) (defBody s_law_two_right) (defScope s_law_two_right) .none kV18 dc18 pm18 an18 cd18 ct18), sl18⟩)
    (c18 : PySem.W.codeIn K cd18 "_law_two_right" = true)
    (k18 : PySem.W.keepIn K (.ref f18) = true)
    (a19 : PySem.W.nsIn K mainGlobals "_law_rules_right" = some (some (.ref f19)))
    (l19 : K.lookup f19 = some ⟨oc19, od19, .func (PySem.W.fnOf "_law_rules_right" "_law_rules_right" (defArgs s_law_rules_right) (defBody s_law_rules_right) (defScope s_law_rules_right) .none kV19 dc19 pm19 an19 cd19 ct19), sl19⟩)
    (c19 : PySem.W.codeIn K cd19 "_law_rules_right" = true)
    (k19 : PySem.W.keepIn K (.ref f19) = true)
    (a20 : PySem.W.nsIn K mainGlobals "_law_right" = some (some (.ref f20)))
    (l20 : K.lookup f20 = some ⟨oc20, od20, .func (PySem.W.fnOf "_law_right" "_law_right" (defArgs s_law_right) (defBody s_law_right) (defScope s_law_right) .none kV20 dc20 pm20 an20 cd20 ct20), sl20⟩)
    (c20 : PySem.W.codeIn K cd20 "_law_right" = true)
    (k20 : PySem.W.keepIn K (.ref f20) = true)
    (a21 : PySem.W.nsIn K mainGlobals "law" = some (some (.ref f21)))
    (l21 : K.lookup f21 = some ⟨oc21, od21, .func (PySem.W.fnOf "law" "law" (defArgs s_law) (defBody s_law) (defScope s_law) .none kV21 dc21 pm21 an21 cd21 ct21), sl21⟩)
    (c21 : PySem.W.codeIn K cd21 "law" = true)
    (k21 : PySem.W.keepIn K (.ref f21) = true)
    : ∃ fd : FuncData, (∀ (s : Shared) (v : Value), BindsTo s fd ⟨[v], []⟩ [("_law_script", v)]) ∧ ∀ base : Heap, K.In base → base.Ns mainGlobals mg → FnOk l.prog w K mg base CX0 9 fa fd ["_law_script"] (spLaw K) := by
  have e := hfa.symm.trans (PySem.W.mg_of X G a21)
  cases e
  have T : Txt K mg C := ⟨PySem.W.mg_none_of X G z_int, PySem.W.mg_none_of X G z_bool, PySem.W.mg_none_of X G z_tuple, PySem.W.mg_none_of X G z_list, PySem.W.mg_none_of X G z_dict, PySem.W.mg_none_of X G z_len, PySem.W.mg_none_of X G z_max, PySem.W.mg_none_of X G z_min, PySem.W.mg_none_of X G z_sum, PySem.W.mg_none_of X G z_all, PySem.W.mg_none_of X G z_abs, PySem.W.mg_none_of X G z_sorted, PySem.W.mg_none_of X G z_range, PySem.W.mg_none_of X G z_zip, PySem.W.mg_none_of X G z_isinstance, ⟨tP, PySem.W.mg_of X G gP⟩, ⟨tM, PySem.W.mg_of X G gM⟩, PySem.W.mg_of X G aC, ⟨pg, hd, po, sa⟩, nP, nM, t1, t2, t3, t4, kS, kT, kI, q1, q2, q3, r1, r2, r3⟩
  have F0 := fd_mk (st := s_is_integer) l0 c0 k0
  have b0 := (fun_mk (st := s_is_integer) l0 c0 k0).binds (ps := ["value"]) fun _ _ _ _ _ _ us hl => match us, hl with | [_], _ => rfl
  have F1 := fd_mk (st := s_is_span) l1 c1 k1
  have b1 := (fun_mk (st := s_is_span) l1 c1 k1).binds (ps := ["value"]) fun _ _ _ _ _ _ us hl => match us, hl with | [_], _ => rfl
  have F2 := fd_mk (st := s_united) l2 c2 k2
  have b2 := (fun_mk (st := s_united) l2 c2 k2).binds (ps := ["pairs"]) fun _ _ _ _ _ _ us hl => match us, hl with | [_], _ => rfl
  have F3 := fd_mk (st := s_shared) l3 c3 k3
  have b3 := (fun_mk (st := s_shared) l3 c3 k3).binds (ps := ["one", "other"]) fun _ _ _ _ _ _ us hl => match us, hl with | [_, _], _ => rfl
  have F4 := fd_mk (st := s_rest_of) l4 c4 k4
  have b4 := (fun_mk (st := s_rest_of) l4 c4 k4).binds (ps := ["pairs"]) fun _ _ _ _ _ _ us hl => match us, hl with | [_], _ => rfl
  have F5 := fd_mk (st := s_Spans_init) l5 c5 k5
  have F6 := fd_mk (st := s_Spans_and) l6 c6 k6
  have b6 := (fun_mk (st := s_Spans_and) l6 c6 k6).binds (ps := ["self", "other"]) fun _ _ _ _ _ _ us hl => match us, hl with | [_, _], _ => rfl
  have F7 := fd_mk (st := s_Spans_or) l7 c7 k7
  have b7 := (fun_mk (st := s_Spans_or) l7 c7 k7).binds (ps := ["self", "other"]) fun _ _ _ _ _ _ us hl => match us, hl with | [_, _], _ => rfl
  have F8 := fd_mk (st := s_Spans_sub) l8 c8 k8
  have b8 := (fun_mk (st := s_Spans_sub) l8 c8 k8).binds (ps := ["self", "other"]) fun _ _ _ _ _ _ us hl => match us, hl with | [_, _], _ => rfl
  have F9 := fd_mk (st := s_Spans_len) l9 c9 k9
  have b9 := (fun_mk (st := s_Spans_len) l9 c9 k9).binds (ps := ["self"]) fun _ _ _ _ _ _ us hl => match us, hl with | [_], _ => rfl
  have F10 := fd_mk (st := s_Spans_eq) l10 c10 k10
  have b10 := (fun_mk (st := s_Spans_eq) l10 c10 k10).binds (ps := ["self", "other"]) fun _ _ _ _ _ _ us hl => match us, hl with | [_, _], _ => rfl
  have F11 := fd_mk (st := s_law_pot) l11 c11 k11
  have b11 := (fun_mk (st := s_law_pot) l11 c11 k11).binds (ps := ["_law_script", "_law_k"]) fun _ _ _ _ _ _ us hl => match us, hl with | [_, _], _ => rfl
  have F12 := fd_mk (st := s_law_draw) l12 c12 k12
  have b12 := (fun_mk (st := s_law_draw) l12 c12 k12).binds (ps := ["_law_pot_here", "_law_many"]) fun _ _ _ _ _ _ us hl => match us, hl with | [_, _], _ => rfl
  have F13 := fd_mk (st := s_law_any) l13 c13 k13
  have b13 := (fun_mk (st := s_law_any) l13 c13 k13).binds (ps := ["_law_pot_here", "_law_items"]) fun _ _ _ _ _ _ us hl => match us, hl with | [_, _], _ => rfl
  have F14 := fd_mk (st := s_law_places) l14 c14 k14
  have b14 := (fun_mk (st := s_law_places) l14 c14 k14).binds (ps := ["_law_couples_here"]) fun _ _ _ _ _ _ us hl => match us, hl with | [_], _ => rfl
  have F15 := fd_mk (st := s_law_couples) l15 c15 k15
  have b15 := (fun_mk (st := s_law_couples) l15 c15 k15).binds (ps := ["_law_places_here"]) fun _ _ _ _ _ _ us hl => match us, hl with | [_], _ => rfl
  have F16 := fd_mk (st := s_law_drawn) l16 c16 k16
  have b16 := (fun_mk (st := s_law_drawn) l16 c16 k16).binds (ps := ["_law_pot_here", "_law_most", "_law_wide"]) fun _ _ _ _ _ _ us hl => match us, hl with | [_, _, _], _ => rfl
  have F17 := fd_mk (st := s_law_of) l17 c17 k17
  have b17 := (fun_mk (st := s_law_of) l17 c17 k17).binds (ps := ["_law_places_here"]) fun _ _ _ _ _ _ us hl => match us, hl with | [_], _ => rfl
  have F18 := fd_mk (st := s_law_two_right) l18 c18 k18
  have b18 := (fun_mk (st := s_law_two_right) l18 c18 k18).binds (ps := ["_law_one", "_law_other", "_law_here", "_law_there"]) fun _ _ _ _ _ _ us hl => match us, hl with | [_, _, _, _], _ => rfl
  have F19 := fd_mk (st := s_law_rules_right) l19 c19 k19
  have b19 := (fun_mk (st := s_law_rules_right) l19 c19 k19).binds (ps := ["_law_one", "_law_other", "_law_third"]) fun _ _ _ _ _ _ us hl => match us, hl with | [_, _, _], _ => rfl
  have F20 := fd_mk (st := s_law_right) l20 c20 k20
  have b20 := (fun_mk (st := s_law_right) l20 c20 k20).binds (ps := ["_law_pot_here"]) fun _ _ _ _ _ _ us hl => match us, hl with | [_], _ => rfl
  have F21 := fd_mk (st := s_law) l21 c21 k21
  refine ⟨PySem.W.fnOf "law" "law" (defArgs s_law) (defBody s_law) (defScope s_law) .none kV21 dc21 pm21 an21 cd21 ct21, fun s v => .of_eq rfl, fun base _ _ => ?_⟩
  have D_is_integer : Cal l.prog w K mg base 1 "is_integer" ["value"] (spInteger) f0 _ := ⟨ok_is_integer T  F0, PySem.W.mg_of X G a0, k0, b0⟩
  have D_is_span : Cal l.prog w K mg base 2 "is_span" ["value"] (spSpan) f1 _ := ⟨ok_is_span T D_is_integer F1, PySem.W.mg_of X G a1, k1, b1⟩
  have D_united : Cal l.prog w K mg base 1 "united" ["pairs"] (spUnited K) f2 _ := ⟨ok_united T  F2, PySem.W.mg_of X G a2, k2, b2⟩
  have D_shared : Cal l.prog w K mg base 1 "shared" ["one", "other"] (spShared K) f3 _ := ⟨ok_shared T  F3, PySem.W.mg_of X G a3, k3, b3⟩
  have D_rest_of : Cal l.prog w K mg base 1 "rest_of" ["pairs"] (spRest K) f4 _ := ⟨ok_rest_of T  F4, PySem.W.mg_of X G a4, k4, b4⟩
  have g5 : FnR l.prog w K mg base CX0 3 f5 (spMade C) := ok_Spans_init T D_is_span D_united F5
  have S0 : SpB l.prog w K mg base C f5 := ⟨⟨mk, a5, i5, kc⟩, g5, PySem.W.mg_of X G aC⟩
  have g6 : MethOk l.prog w K mg base C 5 "__and__" ["self", "other"] (spAnd C) := ⟨_, _, ok_Spans_and T S0 D_shared F6, b6, a6, i6⟩
  have g7 : MethOk l.prog w K mg base C 5 "__or__" ["self", "other"] (spOr C) := ⟨_, _, ok_Spans_or T S0  F7, b7, a7, i7⟩
  have g8 : MethOk l.prog w K mg base C 5 "__sub__" ["self", "other"] (spSub C) := ⟨_, _, ok_Spans_sub T S0 D_shared D_rest_of F8, b8, a8, i8⟩
  have g9 : MethOk l.prog w K mg base C 1 "__len__" ["self"] (spLen C) := ⟨_, _, ok_Spans_len T  F9, b9, a9, i9⟩
  have g10 : MethOk l.prog w K mg base C 1 "__eq__" ["self", "other"] (spEqS K C) := ⟨_, _, ok_Spans_eq T  F10, b10, a10, i10⟩
  have S1_ : SpC l.prog w K mg base C f5 := ⟨S0, sf, g6, g7, g8, g9, g10⟩
  have D_law_pot : Cal l.prog w K mg base 1 "_law_pot" ["_law_script", "_law_k"] (spPot K) f11 _ := ⟨ok_law_pot T  F11, PySem.W.mg_of X G a11, k11, b11⟩
  have D_law_draw : Cal l.prog w K mg base 1 "_law_draw" ["_law_pot_here", "_law_many"] (spDraw) f12 _ := ⟨ok_law_draw T  F12, PySem.W.mg_of X G a12, k12, b12⟩
  have D_law_any : Cal l.prog w K mg base 2 "_law_any" ["_law_pot_here", "_law_items"] (spAny) f13 _ := ⟨ok_law_any T D_law_draw F13, PySem.W.mg_of X G a13, k13, b13⟩
  have D_law_places : Cal l.prog w K mg base 1 "_law_places" ["_law_couples_here"] (spPlaces) f14 _ := ⟨ok_law_places T  F14, PySem.W.mg_of X G a14, k14, b14⟩
  have D_law_couples : Cal l.prog w K mg base 1 "_law_couples" ["_law_places_here"] (spCouples) f15 _ := ⟨ok_law_couples T  F15, PySem.W.mg_of X G a15, k15, b15⟩
  have D_law_drawn : Cal l.prog w K mg base 3 "_law_drawn" ["_law_pot_here", "_law_most", "_law_wide"] (spDrawn) f16 _ := ⟨ok_law_drawn T D_law_draw D_law_any F16, PySem.W.mg_of X G a16, k16, b16⟩
  have D_law_of : Cal l.prog w K mg base 6 "_law_of" ["_law_places_here"] (spOf C) f17 _ := ⟨ok_law_of T S1_ D_law_couples F17, PySem.W.mg_of X G a17, k17, b17⟩
  have D_law_two_right : Cal l.prog w K mg base 7 "_law_two_right" ["_law_one", "_law_other", "_law_here", "_law_there"] (spTwo C) f18 _ := ⟨ok_law_two_right T S1_ D_law_couples D_law_of F18, PySem.W.mg_of X G a18, k18, b18⟩
  have D_law_rules_right : Cal l.prog w K mg base 6 "_law_rules_right" ["_law_one", "_law_other", "_law_third"] (spRules C) f19 _ := ⟨ok_law_rules_right T S1_  F19, PySem.W.mg_of X G a19, k19, b19⟩
  have D_law_right : Cal l.prog w K mg base 8 "_law_right" ["_law_pot_here"] (spRight) f20 _ := ⟨ok_law_right T S1_ D_law_any D_law_places D_law_drawn D_law_of D_law_two_right D_law_rules_right F20, PySem.W.mg_of X G a20, k20, b20⟩
  exact ok_law T D_law_pot D_law_right F21
theorem walk {l : PySem.W.OpenLaw} {q : Program} {loose : List Str} {XP : (Str → Option Value) → Heap → Prop} {YP : World → Heap → Prop} {d : DefRec} {K : Params → PySem.W.Frag} (hn : l.most = some 63) (hdf : d.params.defaults = [])
    (hY : ∀ (w : World) (h : Heap), YP w h → (K w.params).In h)
    (F : ∀ (w : World) (mg : Str → Option Value) (fa : Addr) (h : Heap), (K w.params).In h → h.Ns mainGlobals mg → mg d.name = some (.ref fa) →
      ∃ fd : FuncData, (∀ (s : Shared) (u : Value), BindsTo s fd ⟨[u], []⟩ [("_law_script", u)]) ∧ ∀ base : Heap, (K w.params).In base → base.Ns mainGlobals mg → FnOk l.prog w (K w.params) mg base CX0 9 fa fd ["_law_script"] (spLaw (K w.params))) :
    PySem.W.WalkO q loose XP YP l.row.toRowW d [] (fun f vs => PySem.call f vs) :=
  L2.walk_of (n := 63) (k := 9) (x := "_law_script") (CX := fun _ => CX0) (sp := fun w => spLaw (K w.params)) hn (by decide) hdf ⟨rfl, by decide, by decide⟩ hY F (fun _ _ a ns _ _ hS => ⟨a, ns, rfl, hS, fun _ => rfl⟩) fun _ _ _ _ _ z => z
end S1
open PySem PySem.W PyProof.Rows in
set_option maxRecDepth 100000 in
set_option maxHeartbeats 0 in
theorem PySem.Challenge.cw_oneedition_k38_whole_rules_of_spans_holds : PySem.Challenge.rw_oneedition_k38_whole_rules_of_spans.Holds := by
  w_on; o_law; k_head; (case hw => w_witness2)
  k_fill
  refine S1.walk (l := PySem.Challenge.rw_oneedition_k38_whole_rules_of_spans) rfl rfl (fun w h Y => PySem.W.kIn_of Y) ?F
  case F =>
    intro w mg fa h KX G hmg
    refine' S1.all_mk KX G hmg ?aC ?z_int ?z_bool ?z_tuple ?z_list ?z_dict ?z_len ?z_max ?z_min ?z_sum ?z_all ?z_abs ?z_sorted ?z_range ?z_zip ?z_isinstance ?gP ?gM ?pg ?hd ?po ?sa ?mk ?kc ?nP ?nM ?t1 ?t2 ?t3 ?t4 ?kS ?kT ?kI ?q1 ?q2 ?q3 ?r1 ?r2 ?r3 ?sf ?a0 ?l0 ?c0 ?k0 ?a1 ?l1 ?c1 ?k1 ?a2 ?l2 ?c2 ?k2 ?a3 ?l3 ?c3 ?k3 ?a4 ?l4 ?c4 ?k4 ?a5 ?i5 ?l5 ?c5 ?k5 ?a6 ?i6 ?l6 ?c6 ?k6 ?a7 ?i7 ?l7 ?c7 ?k7 ?a8 ?i8 ?l8 ?c8 ?k8 ?a9 ?i9 ?l9 ?c9 ?k9 ?a10 ?i10 ?l10 ?c10 ?k10 ?a11 ?l11 ?c11 ?k11 ?a12 ?l12 ?c12 ?k12 ?a13 ?l13 ?c13 ?k13 ?a14 ?l14 ?c14 ?k14 ?a15 ?l15 ?c15 ?k15 ?a16 ?l16 ?c16 ?k16 ?a17 ?l17 ?c17 ?k17 ?a18 ?l18 ?c18 ?k18 ?a19 ?l19 ?c19 ?k19 ?a20 ?l20 ?c20 ?k20 ?a21 ?l21 ?c21 ?k21
    (case aC => k_is)
    (case z_int => k_is)
    (case z_bool => k_is)
    (case z_tuple => k_is)
    (case z_list => k_is)
    (case z_dict => k_is)
    (case z_len => k_is)
    (case z_max => k_is)
    (case z_min => k_is)
    (case z_sum => k_is)
    (case z_all => k_is)
    (case z_abs => k_is)
    (case z_sorted => k_is)
    (case z_range => k_is)
    (case z_zip => k_is)
    (case z_isinstance => k_is)
    (case gP => k_is)
    (case gM => k_is)
    (case pg => k_is)
    (case hd => k_is)
    (case po => k_is)
    (case sa => k_is)
    (case mk => k_is)
    (case kc => k_is)
    (case nP => k_is)
    (case nM => k_is)
    (case t1 => k_is)
    (case t2 => k_is)
    (case t3 => k_is)
    (case t4 => k_is)
    (case kS => kit_is)
    (case kT => kit_is)
    (case kI => kit_is)
    (case q1 => kit_is)
    (case q2 => kit_is)
    (case q3 => kit_is)
    (case r1 => k_is)
    (case r2 => k_is)
    (case r3 => k_is)
    (case sf => k_is)
    (case a0 => k_is)
    (case l0 => k_is)
    (case c0 => k_is)
    (case k0 => k_is)
    (case a1 => k_is)
    (case l1 => k_is)
    (case c1 => k_is)
    (case k1 => k_is)
    (case a2 => k_is)
    (case l2 => k_is)
    (case c2 => k_is)
    (case k2 => k_is)
    (case a3 => k_is)
    (case l3 => k_is)
    (case c3 => k_is)
    (case k3 => k_is)
    (case a4 => k_is)
    (case l4 => k_is)
    (case c4 => k_is)
    (case k4 => k_is)
    (case a5 => k_is)
    (case i5 => k_is)
    (case l5 => k_is)
    (case c5 => k_is)
    (case k5 => k_is)
    (case a6 => k_is)
    (case i6 => k_is)
    (case l6 => k_is)
    (case c6 => k_is)
    (case k6 => k_is)
    (case a7 => k_is)
    (case i7 => k_is)
    (case l7 => k_is)
    (case c7 => k_is)
    (case k7 => k_is)
    (case a8 => k_is)
    (case i8 => k_is)
    (case l8 => k_is)
    (case c8 => k_is)
    (case k8 => k_is)
    (case a9 => k_is)
    (case i9 => k_is)
    (case l9 => k_is)
    (case c9 => k_is)
    (case k9 => k_is)
    (case a10 => k_is)
    (case i10 => k_is)
    (case l10 => k_is)
    (case c10 => k_is)
    (case k10 => k_is)
    (case a11 => k_is)
    (case l11 => k_is)
    (case c11 => k_is)
    (case k11 => k_is)
    (case a12 => k_is)
    (case l12 => k_is)
    (case c12 => k_is)
    (case k12 => k_is)
    (case a13 => k_is)
    (case l13 => k_is)
    (case c13 => k_is)
    (case k13 => k_is)
    (case a14 => k_is)
    (case l14 => k_is)
    (case c14 => k_is)
    (case k14 => k_is)
    (case a15 => k_is)
    (case l15 => k_is)
    (case c15 => k_is)
    (case k15 => k_is)
    (case a16 => k_is)
    (case l16 => k_is)
    (case c16 => k_is)
    (case k16 => k_is)
    (case a17 => k_is)
    (case l17 => k_is)
    (case c17 => k_is)
    (case k17 => k_is)
    (case a18 => k_is)
    (case l18 => k_is)
    (case c18 => k_is)
    (case k18 => k_is)
    (case a19 => k_is)
    (case l19 => k_is)
    (case c19 => k_is)
    (case k19 => k_is)
    (case a20 => k_is)
    (case l20 => k_is)
    (case c20 => k_is)
    (case k20 => k_is)
    (case a21 => k_is)
    (case l21 => k_is)
    (case c21 => k_is)
    (case k21 => k_is)
#print axioms PySem.Challenge.cw_oneedition_k38_whole_rules_of_spans_holds
