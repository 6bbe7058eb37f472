import PyProof.Rows.All
import Wide.All
import OpenK.AllK
import Wide.FinOn
import HandS.ForMost
import HandS.More
import HandS.Star
import HandS.SortRule
import HandS.SortInts
import HandS.Conv
import HandS.Wide
import HandS.Flow
import HandS.IsInst
import HandS.Defaults
import HandS.NoneIn
import HandS.ListItems
import HandS.DictComp
import HandS.OwnEq
import HandS.Style
import HandS.TupAny
import HandS.Exc
import HandS.ExcValue
import HandS.ExcField
import HandS.ExcIs
import HandS.EndBits
import HandS.EndTab
import PyProof.ZipIter
import HandS.Zip
import HandS.Set
import HandS.Strs
import PyProof.ReprRoads
import KE.KExcSuper
import HandS.ExcSuper
import HandS.ForSpec
import OpenK.KMeth
import PyProof.EqAt
import HandS.Property
import HandS.SetBool
import KE.KDictPairs
import HandS.Dict
import HandS.WordsDict
import HandS.TryMany
import HandS.Lambda
import HandS.MakeKwOnly
import KE.KSortTup
import PyProof.ReprLen
import KE.KNest
import KE.RegKIsAll
import KE.RegKSuper
import KE.OsRunLaw
import HandS.Head2
import PySem.Challenge.RW_oneedition_k85_copies_of_any_value
set_option Elab.async false
set_option linter.all false
set_option maxRecDepth 100000
set_option maxHeartbeats 4000000
/-! Rules of our own over the hand layer. -/
namespace S1
open PySem PySem.Spec PyProof.Rows L2 StX
section
variable {X : Cx}
/-- a ** b where the result stays below 2^27 bits -/
theorem op_powW : OpR X (binaryOp .Pow) (rI (fun i j => 0 ≤ j ∧ (Builtin.Int.intBits i : Int) * j ≤ 2 ^ 27) fun i j => .int (i ^ j.toNat)) := opI fun _ _ _ _ _ _ _ hc q => pow_int hc.1 hc.2 q

/-! ### three comparisons in a row -/
variable {a b c d : Expr} {ta tb tc td : TE} {pos : Pos} {op op' op2 : CmpOp} {r r' r2 : R2}
def tChain3 (r r' r2 : R2) (ta tb tc td : TE) : TE := fun σ H Q => ta σ H fun x H1 => tb σ H1 fun y H2 => r x y H2 fun z H3 => ∃ k, z = .bl k ∧
  (if k = true then tc σ H3 fun w' H4 => r' y w' H4 fun z' H5 => ∃ k', z' = .bl k' ∧ (if k' = true then td σ H5 fun v' H6 => r2 w' v' H6 Q else Q (.bl false) H5) else Q (.bl false) H3)
theorem pe_chain3 (ho : OpR X (compareOp op) r) (ho' : OpR X (compareOp op') r') (ho2 : OpR X (compareOp op2) r2) (ha : PE X a ta) (hb : PE X b tb) (hc : PE X c tc) (hd : PE X d td)
    (hm : lastMarks [op, op', op2] [b, c, d] = false := by with_unfolding_all rfl) : PE X (.Compare a [op, op', op2] [b, c, d] pos) (tChain3 r r' r2 ta tb tc td) := by
  refine ⟨fun pins s σ H Q I h => ?_⟩
  refine Compare_chain (thn (ha.run pins s σ H _ I h) fun v s1 ⟨x, H1, I1, r1, q1⟩ => chain_link (thn (hb.run pins s1 σ H1 _ I1 q1) fun u s2 ⟨y, H2, I2, r2, q2⟩ =>
    thn (ho pins s2 σ H2 x y v u _ I2 r1 r2 q2) fun d s3 ⟨z, H3, I3, r3, k, e, q3⟩ => ?_)) hm
  subst e
  cases r3
  refine wpAny_truthy_bool ?_
  cases k with
  | false => exact ite_ff ⟨.bl false, H3, I3, rfl, q3⟩
  | true =>
    refine ite_tt (chain_link (thn (hc.run pins s3 σ H3 _ I3 q3) fun w' s4 ⟨z', H4, I4, r4, q4⟩ => thn (ho' pins s4 σ H4 y z' u w' _ I4 r2 r4 q4) fun d' s5 ⟨z2, H5, I5, r5, k2, e2, q5⟩ => ?_))
    subst e2
    cases r5
    refine wpAny_truthy_bool ?_
    cases k2 with
    | false => exact ite_ff ⟨.bl false, H5, I5, rfl, q5⟩
    | true => exact ite_tt (chain_last (thn (hd.run pins s5 σ H5 _ I5 q5) fun w2 s6 ⟨z3, H6, I6, r6, q6⟩ => ho2 pins s6 σ H6 z' z3 w' w2 Q I6 r4 r6 q6))

/-! ### a list or a tuple that is walked -/
variable {tg l : Expr} {tl : TE}
def iSeq (K : PySem.W.Frag) (tl : TE) : TI := fun σ H R => tl σ H fun x H1 => ∃ a, x = .ref a ∧ (((∃ xs, SqL K H1 a xs) ∧ R (Itl K a) H1) ∨ ((∃ xs, SqT K H1 a xs) ∧ R (Itt K a) H1))
theorem pi_seq (hl : PE X l tl) : PI X tg l (iSeq X.K tl) := by
  refine ⟨fun pins s σ H R I h => ?_⟩
  refine thn (hl.run pins s σ H _ I h) fun v s1 ⟨x, H1, I1, r1, q1⟩ => ?_
  obtain ⟨a, e, ⟨⟨xs, hq⟩, q⟩ | ⟨⟨xs, hq⟩, q⟩⟩ := q1
  · subst e
    cases r1
    obtain ⟨its, rv, p, hz⟩ := I1.list hq
    refine wpAny_pyIter_list p.isList ?_
    refine ⟨s1.heap.objs.size, [s1.heap.objs.size], _, _, H1, rfl, I1.kept (t' := s1.toks) fun b o e => Heap.get?_push_of_some _ e, turn_list a _, ⟨_, Heap.get?_push_size _ rfl, rfl, rfl⟩, fun b hb => ?_, q⟩
    have e : b = s1.heap.objs.size := by simpa using hb
    subst e
    exact I1.fpOk (Nat.le_refl _) (I1.hok.fresh (Nat.le_refl _))
  · subst e
    cases r1
    obtain ⟨its, rv, p, hz⟩ := I1.tuple hq
    refine wpAny_pyIter_tuple (show s1.heap.IsTuple a its.toArray from p) ?_
    refine ⟨s1.heap.objs.size, [s1.heap.objs.size], _, _, H1, rfl, I1.kept (t' := s1.toks) fun b o e => Heap.get?_push_of_some _ e, turn_tuple a _, ⟨_, Heap.get?_push_size _ rfl, rfl, rfl⟩, fun b hb => ?_, q⟩
    have e : b = s1.heap.objs.size := by simpa using hb
    subst e
    exact I1.fpOk (Nat.le_refl _) (I1.hok.fresh (Nat.le_refl _))

/-! ### C(*xs, ..) -/
variable {CX : CXT} {k : Nat} {f C : Addr} {sp : Sp} {E : XK} {x : Str} {e : Expr} {es : List Expr} {t : TA} {p sp_ : Pos}
theorem evalArgs_star {M : Model} {A : Around} {Ee : Value → Shared → Prop} {s : Shared} {fv : Value} {x0 : Sem Value} {y0 : Bool × Sem Value} {rest : List (Bool × Sem Value)} {Q : Args → Shared → Prop}
    (h : wpAny M A (spliced ((true, x0) :: y0 :: rest)) (fun vs s1 => Q ⟨vs, []⟩ s1) Ee s) : wpAny M A (evalArgs fv true ((true, x0) :: y0 :: rest) []) Q Ee s := by
  unfold evalArgs
  show wpAny M A (spliced ((true, x0) :: y0 :: rest) >>= _) Q Ee s
  refine wpAny_bind (wpAny_mono h (fun vs s' h' => ?_) fun _ _ x => x)
  refine wpAny_holding ?_
  exact wpAny_bind (wpAny_pure (wpAny_bind (wpAny_pure (wpAny_pure h'))))
/-- C(*y) -/
theorem pe_makeS1 (M : Mk X.K C f) (F : FnR X.prog X.w X.K X.mg X.base CX k f sp) (hr : Room (k + 1) X.A) (hg : Gl X x) (hm : X.mg x = some (.ref C)) (hx : Passes CX X E) {te : TE} (he : PE X e te) (hdb : (x == ("__debug__" : Str)) = false := by decide)
    (hst : starEach [.Starred e sp_] X.env = [(true, eval e X.env)] := by rfl) : PE X (.Call (.Name x p) [.Starred e sp_] [] pos) (tMakeR C sp E (tStar X.K te tNil)) := by
  refine ⟨fun pins s σ H Q I h => ?_⟩
  refine wpAny_Call_Name_kw (ld_glob I hg hm ?_ hdb)
  refine PySem.W.callWith_S (h₀ := X.base) I.ok.mod.kin M.kp (thn (he.run pins s σ H _ I h) fun v s1 ⟨y, H1, I1, ry, a, xs, ey, hxs, q⟩ => ?_) hst
  subst ey
  obtain rfl : v = Value.ref a := ry
  have q' : ∀ x dx, H1 x = Option.none → H1 dx = Option.none → dx ≠ x → sp (V.ref x :: xs) (upd (upd H1 dx (.own x)) x (.ins C dx [])) (fun v H2 => v = .non ∧ Q (.ref x) H2) E := by
    have z : ∀ x dx, H1 x = Option.none → H1 dx = Option.none → dx ≠ x → sp (V.ref x :: (xs ++ [])) (upd (upd H1 dx (.own x)) x (.ins C dx [])) (fun v H2 => v = .non ∧ Q (.ref x) H2) E := q
    rw [List.append_nil] at z
    exact z
  exact StX.star_any I1 hxs fun us s2 I2 rv => ⟨I2.kIn, StX.run_makeR M F hr hx I2 rv q'⟩
/-- C(*y, ..) -/
theorem pe_makeS2 (M : Mk X.K C f) (F : FnR X.prog X.w X.K X.mg X.base CX k f sp) (hr : Room (k + 1) X.A) (hg : Gl X x) (hm : X.mg x = some (.ref C)) (hx : Passes CX X E) {e2 : Expr} (ha : PA X (.Starred e sp_ :: e2 :: es) t) (hdb : (x == ("__debug__" : Str)) = false := by decide)
    (hst : ∃ b y rest, backTo pos (starEach (.Starred e sp_ :: e2 :: es) X.env) = (true, b) :: y :: rest := by exact ⟨_, _, _, rfl⟩) : PE X (.Call (.Name x p) (.Starred e sp_ :: e2 :: es) [] pos) (tMakeR C sp E t) := by
  refine ⟨fun pins s σ H Q I h => ?_⟩
  refine wpAny_Call_Name_kw (ld_glob I hg hm ?_ hdb)
  have z := thn (ha.run pos pins s σ H _ I h) fun us s1 ⟨vs, H1, I1, r, q⟩ => (show X.K.In s1.heap ∧ wpAny (model X.prog X.w) X.A (call (.ref C) us) (EP X pins σ Q) X.xe s1 from ⟨I1.kIn, StX.run_makeR M F hr hx I1 r q⟩)
  obtain ⟨b, y, rest, hb⟩ := hst
  show wpAny (model X.prog X.w) X.A (callWith pos (.ref C) [] (backTo pos (starEach (.Starred e sp_ :: e2 :: es) X.env)) []) _ _ s
  rw [hb] at z ⊢
  exact PySem.W.ks_call rfl (PySem.W.keeps_K M.kp) (evalArgs_star z)
/-- C() -/
theorem pe_makeR0 (M : Mk X.K C f) (F : FnR X.prog X.w X.K X.mg X.base CX k f sp) (hr : Room (k + 1) X.A) (hg : Gl X x) (hm : X.mg x = some (.ref C)) (hx : Passes CX X E) (hdb : (x == ("__debug__" : Str)) = false := by decide) : PE X (.Call (.Name x p) [] [] pos) (tMakeR C sp E tNil) := by
  refine ⟨fun pins s σ H Q I h => ?_⟩
  refine wpAny_Call_Name_kw (ld_glob I hg hm ?_ hdb)
  exact PySem.W.callWith_K0 I.kIn M.kp (StX.run_makeR (us := []) M F hr hx I .nil h)
end

/-! ### operators of an own class -/
section
variable {X : Cx} {CX : CXT} {k : Nat} {f C : Addr} {fd : FuncData} {ps : List Str} {sp : Sp} {E : XK}
theorem notimpl_of {v : V} {u : Value} (r : RelV v u) : u ≠ .notImplemented := by
  cases v with
  | non => cases r; intro h; cases h
  | bl _ => cases r; intro h; cases h
  | int _ => obtain ⟨t, rfl⟩ := r; intro h; cases h
  | str _ => obtain ⟨t, rfl⟩ := r; intro h; cases h
  | byt _ => obtain ⟨t, rfl⟩ := r; intro h; cases h
  | flt _ => obtain ⟨t, rfl⟩ := r; intro h; cases h
  | ref _ => cases r; intro h; cases h
  | ty _ => cases r; intro h; cases h
theorem cmpBack_of {Q : Value → Shared → Prop} {u : Value} {s : Shared} (h : u ≠ .notImplemented) (q : Q u s) : PySem.W.CmpBack Q u s := by
  unfold PySem.W.CmpBack
  cases u <;> first | exact absurd rfl h | exact q
/-- one op other, both of the class at C, by its own method -/
def rOwn (C : Addr) (sp : Sp) (E : XK) : R2 := fun x y H Q => ∃ a b dx dy fs gs, x = .ref a ∧ y = .ref b ∧ H a = some (.ins C dx fs) ∧ H b = some (.ins C dy gs) ∧ sp [.ref a, .ref b] H Q E
theorem op_own {op : Operator} (F : FnOk X.prog X.w X.K X.mg X.base CX k f fd ps sp) (hr : Room k X.A) (hb : Binds X.K fd ps []) (hx : Passes CX X E) (hc : PySem.W.selfFirst X.K C = true)
    (hs : PySem.W.findIn X.K (.ref C) (PySem.dunder op.info.2) = some (some (.ref f))) (hf : PySem.W.isFn X.K (.ref f) = true) : OpR X (binaryOp op) (rOwn C sp E) := by
  intro pins s σ H x y v u Q I rx ry h
  obtain ⟨a, b, dx, dy, fs, gs, rfl, rfl, ha, hb', hsp⟩ := h
  cases rx
  cases ry
  obtain ⟨mA, J, _⟩ := ins_get I.hok ha
  obtain ⟨mB, J', _⟩ := ins_get I.hok hb'
  obtain ⟨od, J, _⟩ := J.look
  obtain ⟨od', J', _⟩ := J'.look
  obtain ⟨m, hF⟩ := I.fr
  refine PySem.W.binop_K hF I.ok.mod.kin J J'.type hc hs hf ?_
  have r2 : Vals [V.ref a, V.ref b] [Value.ref a, Value.ref b] := .cons rfl (.cons rfl .nil)
  refine thn (run_fn (us := [.ref a, .ref b]) (vs := [.ref a, .ref b]) (ds := []) (dvs := []) F hr hb .nil hx I r2 hsp) fun w s' q => ?_
  obtain ⟨z, H', I', rz, q'⟩ := q
  exact cmpBack_of (notimpl_of rz) ⟨z, H', I', rz, q'⟩
/-- len(o) by its own method -/
def rOwnLen (C : Addr) (sp : Sp) (E : XK) : List V → Hp → VK → Prop := fun vs H Q => ∃ a dx fs, vs = [.ref a] ∧ H a = some (.ins C dx fs) ∧ sp [.ref a] H (fun v H' => ∃ n : Int, v = .int n ∧ 0 ≤ n ∧ n < 2 ^ 63 ∧ Q (.int n) H') E
end
end S1

namespace S1
open PySem PySem.Spec PyProof.Rows L2 StX
/-! ### sorted over whatever may be collected -/
section
variable {prog : Program} {w : World} {A : Around} {E : Value → Shared → Prop} {s : Shared}
theorem sorted_from {u : Value} {PV : List Value → Prop} {ltv : Value → Value → Bool} {Q : Value → Shared → Prop} (O : SrtO.Swo ltv) (hz : ∀ vs, PV vs → vs.length ≤ sizeLine)
    (hcol : ∀ Q' : List Value → Shared → Prop, (∀ (vs : List Value) (h' : Heap) (tk : Nat), PV vs → (∀ b o, s.heap.get? b = some o → h'.get? b = some o) → Q' vs { s with heap := h', toks := tk }) → wpAny (model prog w) A.in1 (collect u) Q' E s)
    (hS : ∀ vs : List Value, PV vs → 2 ≤ vs.length → ∀ (h₁ : Heap) (a : Addr) (tk : Nat), h₁.get? a = some (seqObj "list" vs.toArray 0) → (∀ b o, s.heap.get? b = some o → b ≠ a ∧ h₁.get? b = some o) → SrtO.SortableO prog w A.in1.in1 { s with heap := h₁, toks := tk } a vs ltv)
    (h : ∀ (vs : List Value) (h1 h' : Heap) (d : Addr) (tk : Nat) (out : List Value), PV vs → SrtO.Srtd ltv out → SrtO.Stb ltv out vs → (∀ b o, s.heap.get? b = some o → h1.get? b = some o) → (∀ b o, h1.get? b = some o → h'.get? b = some o) → h1.objs.size ≤ d → (∃ n, h'.get? d = some (seqObj "list" out.toArray n)) → Q (.ref d) { s with heap := h', toks := tk }) :
    wpAny (model prog w) A (call (.builtin "sorted") [u]) Q E s := by
  refine Calls.call_function_entry kind_sorted plain_sorted entry_sorted (args_sorted1 _) ?_
  unfold Builtin.«sorted»
  refine wpAny_bind (m := checkCount "sorted" 1 1 _) (wpAny_pure ?_)
  refine wpAny_bind (hcol _ fun vs h' tk pv hk => ?_)
  refine wpAny_bind (wpAny_newList ?_ (hz vs pv))
  have hoL : (h'.push (seqObj "list" vs.toArray 0)).get? h'.objs.size = some (seqObj "list" vs.toArray 0) := Heap.get?_push_size _ rfl
  have keep : ∀ b o, s.heap.get? b = some o → b ≠ h'.objs.size ∧ (h'.push (seqObj "list" vs.toArray 0)).get? b = some o := fun b o q =>
    ⟨Nat.ne_of_lt (Heap.lt_size (hk b o q)), Heap.get?_push_of_some _ (hk b o q)⟩
  show wpAny _ _ _ _ _ { s with heap := h'.push (seqObj "list" vs.toArray 0), toks := tk }
  refine wpAny_bind (wpAny_holding (wpAny_call_entry slot_list_sort ⟨_, hoL, rfl⟩ entry_list_sort (SrtO.list_sort_ord (s := { s with heap := h'.push (seqObj "list" vs.toArray 0), toks := tk }) O hoL (hz vs pv) (fun h2 => hS vs pv h2 _ _ tk hoL keep) fun out hs hb => ⟨_, rfl, ?_⟩) (args_list_sort _)))
  refine wpAny_pure ⟨_, rfl, h vs _ _ _ _ out pv hs hb hk (fun b o e => ?_) (Nat.le_refl _) ?_⟩
  · have hb : b < h'.objs.size := Heap.lt_size e
    rw [PyProof.Rows.sortedHeap_old (Nat.ne_of_lt hb) (by rw [size_push']; exact Nat.lt_succ_of_lt hb)]
    exact Heap.get?_push_of_some _ e
  · exact PyProof.Rows.sortedHeap_at (vs := vs) (out := out.toArray) hoL
end
section
variable {X : Cx}
/-- sorted of a list or a tuple of pairs of ints, any number -/
def rSortedPs (K : PySem.W.Frag) : List V → Hp → VK → Prop := fun vs H Q => ∃ (a : Addr) (xs : List V) (k : V → Int × Int), vs = [V.ref a] ∧ (SqL K H a xs ∨ SqT K H a xs) ∧ (∀ x ∈ xs, ∃ t, x = V.ref t ∧ H t = some (.tup [.int (k x).1, .int (k x).2])) ∧
  ∀ ys p, SrtO.Srtd (ltP k) ys → SrtO.Stb (ltP k) ys xs → H p = none → Q (.ref p) (upd H p (.lst ys))
theorem cr_sortedPs : CallR X (.builtin "sorted") (rSortedPs X.K) := by
  intro pins s σ H vs us Q I r h
  obtain ⟨a, xs, k, rfl, hs, hx, q⟩ := h
  obtain ⟨u, rfl, ru⟩ := vals1 r
  obtain rfl : u = Value.ref a := ru
  obtain ⟨its, rv, hz, o, T, n, hT, ho, hc, hd⟩ : ∃ (its : List Value) (rv : Vals xs its) (hz : xs.length ≤ sizeLine) (o : Obj) (T : String) (n : Nat), (T = "list" ∨ T = "tuple") ∧ s.heap.get? a = some o ∧ o.cls = .type T ∧ o.data = .seq its.toArray n := by
    rcases hs with hs | hs
    · obtain ⟨its, rv, hl, hz⟩ := I.list hs
      obtain ⟨o, ho, hc, n, hd⟩ := hl.isList
      exact ⟨its, rv, hz, o, "list", _, .inl rfl, ho, hc, hd⟩
    · obtain ⟨its, rv, ⟨o, ho, hc, n, hd⟩, hz⟩ := I.tuple hs
      exact ⟨its, rv, hz, o, "tuple", n, .inr rfl, ho, hc, hd⟩
  obtain ⟨e1, e2⟩ := refs_back rv fun x m => by
    obtain ⟨t, e, _⟩ := hx x m
    exact ⟨t, e⟩
  have hp : ∀ v ∈ its, Srt.IsPair s.heap v (k (backV v)).1 (k (backV v)).2 := fun v hv => by
    obtain ⟨t, rfl⟩ := e2 v hv
    have hm : V.ref t ∈ xs := by rw [e1]; exact List.mem_map.mpr ⟨_, hv, rfl⟩
    obtain ⟨t', e, ht⟩ := hx _ hm
    cases e
    obtain ⟨_, its2, r2, o, ho, hc, n, hd⟩ := I.hok _ _ ht
    obtain ⟨u1, u2, rfl, ri, rj⟩ := vals2 r2
    obtain ⟨t1, rfl⟩ := ri
    obtain ⟨t2, rfl⟩ := rj
    exact ⟨t, o, t1, t2, n, rfl, ho, hc, hd⟩
  refine sorted_from (PV := fun vs => vs = its) (SrtO.swo_lex fun u => k (backV u)) (fun vs e => by rw [e, ← rv.length]; exact hz) (fun Q' hq => ?_) (fun vs ev h2 h₁ a' tk ha kk => ?_) fun vs h1 h' d tk out ev s1 s2 k1 k2 hd' hn => ?_
  · have z := wpAny_collect_seq (prog := X.prog) (w := X.w) (A := X.A.in1) (E := X.xe) (Q := Q') a hT ho hc hd (fun h' hk => by
      have e : its.toArray.toList = its := by simp
      rw [e]
      exact hq its h' s.toks rfl hk) (by rw [List.size_toArray, ← rv.length]; exact hz)
    exact z
  · subst ev
    refine SrtO.pairs_sortableO (s := { s with heap := h₁, toks := tk }) (by omega) (fun v hm => (hp v hm).keeps fun b o e _ => (kk b o e).2) fun o e => ?_
    have e' : some o = some (seqObj "list" vs.toArray 0) := e.symm.trans ha
    cases e'
    intro c
    exact absurd (Value.type.inj c) (by decide)
  · subst ev
    have h3 : ∀ u ∈ out, ∃ a, u = Value.ref a := fun u hu => e2 u (s2.perm.mem_iff.mp hu)
    obtain ⟨n', hn⟩ := hn
    have hb : SrtO.Stb (ltP k) (out.map backV) xs := by
      rw [e1]
      exact SrtO.Stb.map (ltP_swo k) backV s2
    have I1 : Inv X pins σ H { s with heap := h1, toks := tk } := I.kept k1
    refine ⟨.ref d, upd H d (.lst (out.map backV)), I1.laid (t' := tk) k2 hd' ⟨?_, out, n', vals_back h3, hn⟩, rfl, q _ d (SrtO.srtd_map s1) hb (I1.hok.fresh hd')⟩
    rw [hb.len]
    exact hz
/-- sorted(d), d a dict whose keys are ints, any number -/
def rSortedDI : List V → Hp → VK → Prop := fun xs H Q => ∃ (a : Addr) (kvs : List (Key × V)) (ks : List Int), xs = [.ref a] ∧ Rd H a (.dK kvs) ∧ kvs.map (·.1) = ks.map Sum.inl ∧
    ∀ (ys : List Int) (p : Addr), ys.Perm ks → ys.Pairwise (· ≤ ·) → H p = none → Q (.ref p) (upd H p (.lst (ys.map V.int)))
theorem cr_sortedDI (hcalm : X.calm = true) : CallR X (.builtin "sorted") rSortedDI := by
  intro pins s σ H xs us Q I r q
  obtain ⟨a, kvs, ks, ex, hd, hks, q⟩ := q
  subst ex
  obtain ⟨u, eu, rx⟩ := vals1 r
  subst eu
  cases rx
  obtain ⟨z, lo, vs, rel, dd⟩ := dk_rd I.hok hd
  obtain ⟨ep, hat⟩ := dd.dictAt
  have hkeys : vs.map (·.1) = ks.map Sum.inl := rel.keys.symm.trans hks
  have hl : vs.length = ks.length := by
    have e := congrArg List.length hkeys
    rw [List.length_map, List.length_map] at e
    exact e
  have h16 : vs.length ≤ sizeLine := by rw [← rel.length]; exact z
  refine sorted_from (PV := fun acc => IntsAre acc ks) SrtO.swo_int (fun acc hS => by rw [hS.length, ← hl]; exact h16) (fun Q' hq => ?_) (fun acc hS h2 h₁ a' tk ha kk => ?_) fun acc h1 h' d tk out hS s1 s2 k1 k2 hd' hn => ?_
  · refine PySem.W.kdu_collect (A := X.A.in1) (PySem.W.kdl_dict (knd := mixKind X.prog X.w) (kvs := vs) (ep := ep) lo) (I.ok.hd hcalm) hat h16 fun h' tk acc hk hacc => ?_
    have hal : acc.toList.length = ks.length := by rw [Array.length_toList, hacc.1, hl]
    refine hq acc.toList h' tk (ints_each hal fun j v e => ?_) hk
    obtain ⟨k, x, e1, e2⟩ := hacc.2 j v (by rw [← Array.getElem?_toList]; exact e)
    have e3 : (vs.map (·.1))[j]? = some k := by rw [List.getElem?_map, e1]; rfl
    rw [hkeys, List.getElem?_map] at e3
    cases e4 : ks[j]? with
    | none => rw [e4] at e3; cases e3
    | some y =>
      rw [e4] at e3
      have e5 : Sum.inl y = k := Option.some.inj e3
      subst e5
      rcases keyIs_shape (show keyIs (Sum.inl y) v = true from e2) with ⟨i, t, ek, ev⟩ | ⟨z, t, ek, ev⟩
      · cases ek
        exact ⟨y, t, rfl, ev⟩
      · cases ek
  · exact SrtO.ints_sortable hS h2
  · obtain ⟨j1, j2, j3⟩ := SrtO.ints_out hS s1 s2
    obtain ⟨n', hn⟩ := hn
    have I1 : Inv X pins σ H { s with heap := h1, toks := tk } := I.kept k1
    refine ⟨.ref d, upd H d (.lst ((out.map SrtO.iv).map V.int)), I1.laid (t' := tk) k2 hd' ⟨?_, out, n', vals_of_ints j1, hn⟩, rfl, q _ d j2 j3 (I1.hok.fresh hd')⟩
    rw [List.length_map, j2.length_eq, ← hl]
    exact h16
end
end S1

namespace S1
open PySem PySem.Spec PyProof.Rows L2 StX
/-! ### x == y by an own __eq__, whatever y is -/
section
variable {X : Cx} {CX : CXT} {k : Nat} {f C : Addr} {fd : FuncData} {ps : List Str} {sp : Sp} {E : XK}
def rOwnEq (K : PySem.W.Frag) (C : Addr) (sp : Sp) (E : XK) : R2 := fun x y H Q => ∃ a dx fs tb, x = .ref a ∧ H a = some (.ins C dx fs) ∧ TyX K H y tb ∧ PySem.W.notFirst K C tb = true ∧ sp [.ref a, y] H Q E
theorem op_ownEq (F : FnOk X.prog X.w X.K X.mg X.base CX k f fd ps sp) (hr : Room k X.A) (hb : Binds X.K fd ps []) (hx : Passes CX X E)
    (hs : PySem.W.findIn X.K (.ref C) "__eq__" = some (some (.ref f))) (hf : PySem.W.isFn X.K (.ref f) = true) : OpR X (compareOp .Eq) (rOwnEq X.K C sp E) := by
  intro pins s σ H x y v u Q I rx ry h
  obtain ⟨a, dx, fs, tb, rfl, ha, ty, hn, hsp⟩ := h
  cases rx
  obtain ⟨mA, J, _⟩ := ins_get I.hok ha
  obtain ⟨od, J, _⟩ := J.look
  obtain ⟨m, hF⟩ := I.fr
  obtain ⟨P, Z, p, _⟩ := kit_of I ry ty
  show wpAny (model X.prog X.w) X.A (richCompare .Eq (.ref a) u) _ _ _
  refine PySem.W.cmp_K (op := .Eq) (tb := tb) hr.units0 hF I.ok.mod.kin J (Z.ty _ _ I.kIn p) hn hs hf ?_
  refine thn (run_fn (us := [.ref a, u]) (vs := [.ref a, y]) (ds := []) (dvs := []) F hr hb .nil hx I (.cons rfl (.cons ry .nil)) hsp) fun w s' q => ?_
  obtain ⟨z, H', I', rz, q'⟩ := q
  exact cmpBack_of (notimpl_of rz) ⟨z, H', I', rz, q'⟩
/-- len(o) by its own __len__ -/
theorem call_ownLen (F : FnOk X.prog X.w X.K X.mg X.base CX k f fd ps sp) (hr : Room (k + 1) X.A) (hb : Binds X.K fd ps []) (hx : ∀ (pins : List (Addr × Obj)) (σ : L2.St) (H : Hp) (s : Shared) (e : Value) (s' : Shared), Inv X pins σ H s → CX X.stack H s E e s' → False)
    (hs : PySem.W.findIn X.K (.ref C) "__len__" = some (some (.ref f))) (hf : PySem.W.isFn X.K (.ref f) = true) : CallR X (.builtin "len") (rOwnLen C sp E) := by
  intro pins s σ H vs us Q I r h
  obtain ⟨a, dx, fs, rfl, ha, hsp⟩ := h
  obtain ⟨u, rfl, ru⟩ := vals1 r
  cases ru
  obtain ⟨mA, J, _⟩ := ins_get I.hok ha
  obtain ⟨od, J, _⟩ := J.look
  obtain ⟨m, hF⟩ := I.fr
  refine PySem.W.len_K hF I.ok.mod.kin J hs hf ?_
  have hl := F.len _ _ _ _ hsp
  have e0 : Env0 X.prog X.w X.K X.mg X.base X.A.in1 X.stack s H := I.env0.in1
  refine wpAny_call (codeAny_mono (F.run X.A.in1 X.stack s H ⟨[.ref a], []⟩ [.ref a] [.ref a] _ E hr.in1 e0 (by
    have := hb s [.ref a] I.kIn (by simpa using hl)
    simpa using this) (.cons rfl .nil) hsp) fun r s' hq => ?_)
  cases r with
  | error e => exact (hx pins σ H s e s' I hq).elim
  | ok fl =>
    cases fl with
    | ret w =>
      obtain ⟨z, H', I', rz, n, ez, h0, h1, q'⟩ := I.after hq
      subst ez
      obtain ⟨t, rfl⟩ := rz
      exact ⟨⟨h0, h1⟩, .int n, H', I'.tok _, ⟨_, rfl⟩, q'⟩
    | next => exact False.elim hq
    | brk => exact False.elim hq
    | cont => exact False.elim hq
end

/-! ### len(range(n)) -/
section
variable {X : Cx}
theorem cr_range1 : CallR X (.type "range") (fun vs H Q => ∃ j, vs = [V.int j] ∧ ∀ p, H p = none → Q (.ref p) (upd H p (.rng 0 j))) := by
  intro pins s σ H vs us Q I r h
  obtain ⟨j, rfl, q⟩ := h
  obtain ⟨u1, rfl, ri⟩ := vals1 r
  obtain ⟨t, rfl⟩ := ri
  refine call_range_1 ⟨.ref s.heap.objs.size, upd H s.heap.objs.size (.rng 0 j), I.laid (t' := s.toks + 1 + 1) (fun b o e => Heap.get?_push_of_some _ e) (Nat.le_refl _) ?_, rfl, q _ (I.hok.fresh (Nat.le_refl _))⟩
  exact ⟨_, _, _, Heap.get?_push_size _ rfl⟩
def rLenRg : List V → Hp → VK → Prop := fun vs H Q => ∃ p j, vs = [V.ref p] ∧ H p = some (.rng 0 j) ∧ 0 ≤ j ∧ j < 2 ^ 62 ∧ Q (.int j) H
theorem cr_lenRg : CallR X (.builtin "len") rLenRg := by
  intro pins s σ H vs us Q I r h
  obtain ⟨p, j, rfl, hp, h0, h1, q⟩ := h
  obtain ⟨u1, rfl, ri⟩ := vals1 r
  cases ri
  obtain ⟨t, u, v, e⟩ := I.hok p _ hp
  have hn : Builtin.Range.rangeSize 0 j 1 = j := by rw [rangeSize_one]; split <;> omega
  refine call_len_range (n := j.toNat) (a := 0) (b := j) (c := 1) (t := t) (u := u) (v := v) e (by omega) (by omega) ?_
  have e2 : ((j.toNat : Nat) : Int) = j := by omega
  rw [e2]
  exact ⟨.int j, H, I.tok _, ⟨_, rfl⟩, q⟩

/-! ### dicts that are sets of ints -/
def setK (ks : List Int) : List (Key × V) := ks.map fun k => (Sum.inl k, V.bl true)
theorem setK_val (ks : List Int) (k : Int) : valV (setK ks) (Sum.inl k : Key) = if k ∈ ks then some (V.bl true) else none := by
  unfold setK valV
  induction ks with
  | nil => simp
  | cons a r ih =>
    rw [List.map_cons, List.find?_cons]
    by_cases e : a = k
    · subst e; simp
    · have h1 : decide ((Sum.inl a : Key) = Sum.inl k) = false := decide_eq_false fun q => e (Sum.inl.inj q)
      simp only [h1]
      rw [ih]
      have h2 : (k ∈ a :: r) ↔ k ∈ r := by simp [Ne.symm e]
      simp only [h2]
def rEqSet (neg : Bool) : R2 := fun x y H Q => ∃ a b ks ls, x = .ref a ∧ y = .ref b ∧ H a = some (.dK (setK ks)) ∧ H b = some (.dK (setK ls)) ∧ Q (.bl (neg ^^ (ks.length == ls.length && ks.all fun k => decide (k ∈ ls)))) H
theorem hits_set {A : Around} {s : Shared} {ls : List Int} {vb : List (Key × Value)} (rb : KV (setK ls) vb) : ∀ {ks : List Int} {va : List (Key × Value)}, KV (setK ks) va → ∃ r, PySem.W.KeqHits A s vb va r ∧ r = ks.all fun k => decide (k ∈ ls)
  | [], va, ra => by
    unfold KV setK at ra
    rw [List.map_nil] at ra
    cases ra
    exact ⟨true, .nil, rfl⟩
  | k :: ks, va, ra => by
    unfold KV setK at ra
    rw [List.map_cons] at ra
    cases ra with
    | @cons p q ps qs h t =>
      obtain ⟨h1, h2⟩ := h
      obtain ⟨k', v⟩ := q
      have h1' : (Sum.inl k : Key) = k' := h1
      subst h1'
      have hv : v = Value.bool true := h2
      subst hv
      have rr := rb.val (Sum.inl k)
      rw [setK_val] at rr
      obtain ⟨r, hr, er⟩ := hits_set rb (ks := ks) (va := qs) t
      by_cases hm : k ∈ ls
      · rw [if_pos hm] at rr
        obtain ⟨y, hy, ry⟩ := rr.some_of
        have hy' : y = Value.bool true := ry
        subst hy'
        refine ⟨true && r, .hit hy (SeqAt.EqAt.same _) hr, ?_⟩
        rw [er, List.all_cons, decide_eq_true hm]
      · rw [if_neg hm] at rr
        refine ⟨false, .miss rr.none_of, ?_⟩
        rw [List.all_cons, decide_eq_false hm]
        rfl
theorem op_eqSet (hu : X.A.units < cLine) : OpR X (compareOp .Eq) (rEqSet false) := by
  intro pins s σ H x y v u Q I rx ry h
  obtain ⟨a, b, ks, ls, rfl, rfl, ea, eb, q⟩ := h
  obtain rfl : v = Value.ref a := rx
  obtain rfl : u = Value.ref b := ry
  obtain ⟨_, ya, va, ra, da⟩ := (show ObjOk X.prog X.w H s.heap a (.dK (setK ks)) from I.hok a _ ea)
  obtain ⟨_, yb, vb, rb, db⟩ := (show ObjOk X.prog X.w H s.heap b (.dK (setK ls)) from I.hok b _ eb)
  obtain ⟨r, hr, er⟩ := hits_set (A := X.A.in1) (s := s) rb ra
  have l1 : va.length = ks.length := by rw [← ra.length]; exact List.length_map _
  have l2 : vb.length = ls.length := by rw [← rb.length]; exact List.length_map _
  refine PySem.W.keq_eq (knd := mixKind X.prog X.w) (r := r) ya yb da db hu (fun _ => hr) (fin_bl I q ?_)
  rw [l1, l2, er, Bool.false_xor]
/-! ### t[::-1], t a tuple -/
def tRevT (K : PySem.W.Frag) (te : TE) : TE := fun σ H Q => te σ H fun x H1 => ∃ a xs, x = .ref a ∧ SqT K H1 a xs ∧ ∀ p, H1 p = none → Q (.ref p) (upd H1 p (.tup xs.reverse))
end
end S1

namespace S1
open PySem PySem.Spec PyProof.Rows L2 StX
theorem rev_adjust (n : Nat) : Builtin.Slice.sliceAdjust none none (-1) (n : Int) = ((n : Int) - 1, -1) := by
  unfold Builtin.Slice.sliceAdjust
  have h1 : ((-1 : Int) < 0) := by omega
  simp only [h1, if_true]
theorem rev_places (n : Nat) : Builtin.Slice.slicePlaces ((n : Int) - 1) (-1) (-1) = n := by
  unfold Builtin.Slice.slicePlaces
  have h1 : ¬ ((-1 : Int) > 0) := by omega
  simp only [h1, if_false]
  have e : (-(-1) : Int) = 1 := by omega
  rw [e, Int.ediv_one]
  split <;> omega
theorem fm_congr {α β : Type} {f g : α → Option β} : ∀ {l : List α}, (∀ x ∈ l, f x = g x) → l.filterMap f = l.filterMap g
  | [], _ => rfl
  | a :: r, h => by
    rw [List.filterMap_cons, List.filterMap_cons, h a List.mem_cons_self, fm_congr fun x m => h x (List.mem_cons_of_mem _ m)]
theorem rev_pick (xs : List Value) : (List.range xs.length).filterMap (fun (k : Nat) => xs.toArray[((xs.length : Int) - 1 + (k : Int) * (-1)).toNat]?) = xs.reverse := by
  have h1 : (List.range xs.length).filterMap (fun (k : Nat) => xs.toArray[((xs.length : Int) - 1 + (k : Int) * (-1)).toNat]?) = (List.range xs.length).filterMap (fun k => xs.reverse[k]?) := by
    refine fm_congr fun k hk => ?_
    have hk := List.mem_range.mp hk
    rw [List.getElem?_reverse hk, List.getElem?_toArray]
    congr 1
    omega
  rw [h1]
  have h2 := PySem.W.krv_all xs.reverse.toArray
  simpa using h2
section
variable {prog : Program} {w : World} {A : Around} {E : Value → Shared → Prop} {s : Shared}
theorem getItem_tuple_rev {t sl : Addr} {its : List Value} {vl vu vs : Value} {Q : Value → Shared → Prop} (ht : IsTup s.heap t its.toArray) (hs : s.heap.IsSliceOf sl vl vu vs) (pl : IsPart vl none) (pu : IsPart vu none) (ps : IsPart vs (some (-1)))
    (h : Q (.ref s.heap.objs.size) { s with heap := s.heap.push { cls := .type "tuple", data := .seq its.reverse.toArray } })
    (hsz : its.length ≤ sizeLine) : wpAny (model prog w) A (getItem (.ref t) (.ref sl)) Q E s := by
  have htake : sizeOk (.seq its.reverse.toArray) := by
    show its.reverse.toArray.size ≤ sizeLine
    rw [List.size_toArray, List.length_reverse]
    exact hsz
  obtain ⟨os, hos, hcs, hds⟩ := id hs
  have hTs : s.TypeIs (.ref sl) "slice" := ⟨os, hos, hcs⟩
  unfold getItem
  try with_reducible refine wpAny_holding ?_
  first | refine wpAny_bind (wpAny_pure ?_) | skip
  refine wpAny_bind (wpAny_sequenceKey ht.typeIs (by decide) ?_)
  refine wpAny_bind (wpAny_callSpecial?_slot (name := Str.ofString "__getitem__") ht.typeIs PyProof.Rows.slot_tuple_getitem
    (wpAny_call_entry PyProof.Rows.slot_tuple_getitem ht.typeIs entry_tuple_getitem ?_ (args_tuple_getitem _ _)))
  show wpAny _ _ (Builtin.Tuple.tupleItemsOf (.ref t) >>= _) _ _ s
  refine wpAny_bind (tupleItemsOf_ ht ?_)
  refine wpAny_bind (wpAny_typeOf hTs ?_)
  rw [if_pos (by decide)]
  refine wpAny_bind ?_
  unfold Builtin.Slice.sliceApplied Builtin.Slice.sliceFields
  refine wpAny_bind (wpAny_bind (wpAny_field hos hds (x := vl) rfl (wpAny_bind (wpAny_field hos hds (x := vu) rfl (wpAny_bind (wpAny_field hos hds (x := vs) rfl (wpAny_pure ?_)))))))
  refine wpAny_bind (HT.slicePart_ ps ?_)
  show wpAny _ _ (if ((-1 : Int) == 0) = true then _ else _) _ _ s
  rw [if_neg (by decide)]
  refine wpAny_bind (HT.slicePart_ pl (wpAny_bind (HT.slicePart_ pu (wpAny_bind (wpAny_pure ?_)))))
  show wpAny _ _ (match Builtin.Slice.sliceAdjust none none (-1) ((its.toArray.size : Nat) : Int) with | (lo, hi) => pure (lo, (-1 : Int), Builtin.Slice.slicePlaces lo hi (-1))) _ _ s
  rw [List.size_toArray, rev_adjust]
  show wpAny _ _ (pure (((its.length : Int) - 1), (-1 : Int), Builtin.Slice.slicePlaces ((its.length : Int) - 1) (-1) (-1))) _ _ s
  rw [rev_places]
  refine wpAny_pure ?_
  show wpAny _ _ (if ((((its.length : Int) - 1) == 0 && (-1 : Int) == 1 && its.length == its.toArray.size) = true) then _ else _) _ _ s
  rw [if_neg (by simp)]
  show wpAny _ _ ((Builtin.Tuple.tupleExact ((List.range its.length).filterMap fun (k : Nat) => its.toArray[((its.length : Int) - 1 + (k : Int) * (-1)).toNat]?).toArray) >>= fun v => ret v) _ _ s
  rw [rev_pick]
  first
    | exact wpAny_bind (m := Builtin.Tuple.tupleExact _) (wpAny_newObj_type (wpAny_pure ⟨_, rfl, wpAny_pure h⟩) htake)
    | exact wpAny_bind (m := Builtin.Tuple.tupleExact _) (wpAny_newObj_type (wpAny_bind (wpAny_pure (wpAny_pure ⟨_, rfl, wpAny_pure h⟩))) htake)
    | exact wpAny_bind (wpAny_bind (m := Builtin.Tuple.tupleExact _) (wpAny_newObj_type (wpAny_pure (wpAny_pure ⟨_, rfl, wpAny_pure h⟩)) htake))
    | exact wpAny_bind (wpAny_bind (m := Builtin.Tuple.tupleExact _) (wpAny_newObj_type (wpAny_pure ⟨_, rfl, wpAny_pure h⟩) htake))
end
section
variable {X : Cx}
theorem pe_revT {e : Expr} {te : TE} {k : Nat} {p1 p2 p3 pos : Pos} (he : PE X e te) : PE X (.Subscript e (.Slice none none (some (.UnaryOp .USub (.Constant (.int 1) k p1) p2)) p3) pos) (tRevT X.K te) := by
  refine ⟨fun pins s σ H Q I h => ?_⟩
  refine Subscript_ (thn (he.run pins s σ H _ I h) fun v s1 ⟨x, H1, I1, r1, q1⟩ => ?_)
  obtain ⟨a, xs, ex, hx, q⟩ := q1
  subst ex
  cases r1
  have hst : PO X (some (.UnaryOp .USub (.Constant (.int 1) k p1) p2)) (tPart (tUn (rU fun i => .int (-i)) (tC (.int 1)))) := po_some (pe_un un_neg pe_int)
  refine wpAny_Slice (thn (po_none.run pins s1 σ H1 (fun o H2 => o = none ∧ H2 = H1) I1 ⟨rfl, rfl⟩) fun vl s2 ⟨l, H2, I2, pl, el, e2⟩ => ?_)
  subst el e2
  refine thn (po_none.run pins s2 σ H2 (fun o H3 => o = none ∧ H3 = H2) I2 ⟨rfl, rfl⟩) fun vu s3 ⟨u, H3, I3, pu, eu, e3⟩ => ?_
  subst eu e3
  refine thn (hst.run pins s3 σ H3 (fun o H4 => o = some (-1) ∧ H4 = H3) I3 ⟨1, rfl, -1, rfl, rfl, rfl⟩) fun vs s4 ⟨o, H4, I4, ps, eo, e4⟩ => ?_
  subst eo e4
  have I5 : Inv X pins σ H4 { s4 with heap := s4.heap.push { cls := .type "slice", data := .fields #[vl, vu, vs] } } := I4.kept (t' := s4.toks) fun b ob q => Heap.get?_push_of_some _ q
  obtain ⟨its, r, ht, hz⟩ := I5.tuple hx
  have hlen := r.length
  show wpAny (model X.prog X.w) X.A (subscriptTail e (.Slice none none (some (.UnaryOp .USub (.Constant (.int 1) k p1) p2)) p3) (.ref a) (.ref s4.heap.objs.size)) (EP X pins σ Q) X.xe { s4 with heap := s4.heap.push { cls := .type "slice", data := .fields #[vl, vu, vs] } }
  refine tail_any (ops := [.ref a, .ref s4.heap.objs.size]) ht.typeIs (PyProof.Rows.slot_tuple_getitem.lookup) ?_ (by with_unfolding_all rfl)
  refine getItem_tuple_rev ht (Heap.IsSliceOf.new _ vl vu vs) pl pu ps ?_ (by omega)
  refine ⟨.ref _, _, I5.laid (t' := s4.toks) (o := .tup xs.reverse) (fun b ob q => Heap.get?_push_of_some _ q) (Nat.le_refl _) ?_, rfl, q _ (I5.hok.fresh (Nat.le_refl _))⟩
  exact ⟨by rw [List.length_reverse]; exact hz, _, r.reverse, IsTup.new _ _⟩
end
end S1

/-! An exception that is caught and kept behind its suite. -/
namespace S1
open PySem PySem.Spec PyProof.Rows L2 StX
/-- an exception object of the class cls, its dict d, at a: caught, in no flight -/
def ExK (cls : Value) (d : Option Addr) (a : Addr) : HO := .ext fun h => ∃ (oe : Obj) (vs : Array Value), h.get? a = some oe ∧ Zc cls d oe ∧ oe.data = .fields vs
theorem exK_ok {P : Program} {w : World} {H : Hp} {h : Heap} {a : Addr} {cls : Value} {d : Option Addr} {oe : Obj} {vs : Array Value} (e : h.get? a = some oe) (z : Zc cls d oe) (dd : oe.data = .fields vs) : ObjOk P w H h a (ExK cls d a) :=
  ⟨⟨oe, vs, e, z, dd⟩, ⟨oe, e⟩, fun h1 h2 ⟨oe', vs', q1, q2, q3⟩ k => ⟨oe', vs', k _ q1, q2, q3⟩⟩
theorem inv_keepX {X : Cx} {pins : List (Addr × Obj)} {σ : L2.St} {H : Hp} {s : Shared} {a : Addr} {cls : Value} {d : Option Addr} {oe : Obj} {vs : Array Value} (I : Inv X pins σ H s) (ha : s.heap.get? a = some oe) (hz : Zc cls d oe) (hd : oe.data = .fields vs) (na : H a = none)
    (n0 : X.s_0.heap.get? a = none) (nL : a ≠ X.env.locals) (np : ∀ p ∈ X.pn ++ pins, p.1 ≠ a) : Inv X pins σ (upd H a (ExK cls d a)) s := by
  refine ⟨I.ok, I.os, I.bare, ⟨I.base.keep, I.base.slot, fun b o e n hx => ?_, I.base.there, fun b xs q => ?_, fun b o u q => ?_, fun b ps q => ?_⟩, I.loc, I.cell, ?_, fun x c e => ?_, fun p hp => ?_, HOk.laidN I.hok (fun _ _ e => e) na (exK_ok ha hz hd), I.len⟩
  · rw [upd_ne (fun z => by rw [z, n0] at e; cases e)]
    exact I.base.free b o e n hx
  · have r := I.base.tups b xs q
    rw [upd_ne (ne_of_none r na)]
    exact r
  · have r := I.base.frzs b o u q
    rw [upd_ne (ne_of_none r na)]
    exact r
  · obtain ⟨m, r⟩ := I.base.tbls b ps q
    exact ⟨m, by rw [upd_ne (ne_of_none r na)]; exact r⟩
  · rw [upd_ne nL.symm]
    exact I.free
  · obtain ⟨v, o, ho, hc⟩ := I.cell x c e
    rw [upd_ne (fun z => by rw [z, ha] at ho; cases ho; rw [hd] at hc; cases hc)]
    exact I.freeC x c e
  · obtain ⟨e1, e2, e3, e4, e5⟩ := I.pin p hp
    exact ⟨e1, by rw [upd_ne (np p hp)]; exact e2, e3, e4, e5⟩
theorem sky_new {B : Heap} {l : List Env} {a L : Addr} {Z : Obj → Prop} {h : Heap} (s : Sky B l a Z L h) : B.get? a = none := by
  rcases s with s | s | s
  · exact s.2.1
  · exact s.2.1
  · exact s.2.1
/-- what 'except x as n' wishes of the body's exception, where it catches it and the exception is kept behind the suite -/
def wKeep (K : PySem.W.Frag) (c : Value) (i : Nat) (ts : Addr → Value → Option Addr → TS) (D : Ends) : WX := fun cls d σ H => PySem.W.exmOne K cls c = some true ∧ ∀ a, H a = none → ts a cls d
  { nx := fun σ' H' => H' a = none → D.nx (σ'.set i none) (upd H' a (ExK cls d a)), rt := fun v H' => H' a = none → D.rt v (upd H' a (ExK cls d a)), bk := fun σ' H' => H' a = none → D.bk (σ'.set i none) (upd H' a (ExK cls d a)), ct := fun σ' H' => H' a = none → D.ct (σ'.set i none) (upd H' a (ExK cls d a)) } (σ.set i (some (.ref a))) H
section
variable {X : Cx} {x n : Str} {c : Value} {i : Nat} {body suite : List Stmt} {b₀ : Stmt} {np pos pos' : Pos} {tb : WX → TS} {ts : Addr → Value → Option Addr → TS}
theorem ps_try_keep (stk : X.stack = X.env :: X.outer) (frm : X.env.frame = some X.env.locals) (nod : X.N.Nodup) (hi : X.N[i]? = some n) (loc : X.env.kindOf n = some .local) (nam : Names X x c) (exn : X.ex = [])
    (hb : ∀ (W : WX) (pn : List (Addr × Obj)) (xe : Value → Shared → Prop), Takes (X.tr pn xe) W → PassesOwn (model X.prog X.w) X.A X.env xe → PSs (X.tr pn xe) body (tb W))
    (sui : ∀ (a : Addr) (oe : Obj) (cls : Value) (d : Option Addr) (pn : List (Addr × Obj)), Zc cls d oe → (∃ vs, oe.data = .fields vs) → PSs (X.suite a ((a, oe) :: pn)) (b₀ :: suite) (ts a cls d)) :
    PS X (.Try body [.ExceptHandler (some (.Name x np)) (some n) (b₀ :: suite) pos'] [] [] pos) (fun D σ H => tb (wKeep X.K c i ts D) D σ H) := by
  refine ⟨fun pins s σ H D I wish => ?_⟩
  have ok := I.ok
  have frs_ : X.A.frames = some (X.env :: X.outer) := by rw [ok.frames, stk]
  refine wpAny_Try_except ?_
  refine wpAny_mono ((hb (wKeep X.K c i ts D) (X.pn ++ pins) (fun u t1 => wpAny (model X.prog X.w) X.A (noteFrame u X.env) (fun _ t2 => wpAny (model X.prog X.w) X.A (setFlight u none) (fun _ t3 => wpAny (model X.prog X.w) X.A (handleBy u X.env [.ExceptHandler (some (.Name x np)) (some n) (b₀ :: suite) pos']) (SP X pins D) X.xe t3) X.xe t2) X.xe t1) (fun u t xx => ?_) PassesOwn.looking).run [] s σ H D (I.toTry _) wish) (fun f t1 got => ?_) (fun _ _ z => z)
  · obtain ⟨a, B, sI, pins', τ, G, cls, d, rfl, Jt, nb, up, sky, na, os, ag, hit, yes⟩ := xx
    have J : Inv X pins τ G sI := Jt.ofTry ok
    have newB := sky_new sky
    have sky1 : Sky B (X.env :: X.outer) a (Zc cls d) X.env.locals t.heap := by rw [← stk]; exact sky
    show wpAny (model X.prog X.w) X.A (noteFrame (.ref a) X.env) _ _ _
    refine Sky.land Zc.steady frs_ frm sky1 fun h3 fl3 up3 => ?_
    have J3 : Inv X pins τ G { t with heap := h3 } := J.landed nb fl3.1 (up.trans up3) os ag
    obtain ⟨o3, vs3, at3, z3, d3⟩ := fl3.there
    have offFr : a ∉ frs (X.env :: X.outer) := fun hm => by
      obtain ⟨_, o', e', hnf⟩ := fl3.2.2.1.mem hm
      rw [at3] at e'
      cases e'
      exact hnf _ d3
    have newI : sI.heap.get? a = none := by
      cases q : sI.heap.get? a with
      | none => rfl
      | some o =>
        have := nb a o q (by rw [stk]; exact offFr)
        rw [newB] at this
        cases this
    have new0 : X.s_0.heap.get? a = none := by
      cases q : X.s_0.heap.get? a with
      | none => rfl
      | some o =>
        obtain ⟨o', e'⟩ := J.base.there a o q (by rw [exn]; exact fun z => nomatch z)
        rw [newI] at e'
        cases e'
    have offPn : ∀ p ∈ X.pn ++ pins, p.1 ≠ a := fun p hp z => by
      have := (J.pin p hp).1
      rw [z, newI] at this
      cases this
    have offL : a ≠ X.env.locals := fun z => offFr (List.mem_filterMap.mpr ⟨X.env, List.mem_cons_self, by rw [frm, z]⟩)
    have offF : a ∉ X.fs := fun hm => by
      obtain ⟨e, he, q⟩ := List.mem_filterMap.mp hm
      exact offFr (List.mem_filterMap.mpr ⟨e, List.mem_cons_of_mem _ he, q⟩)
    have S3 := J3.suite at3 d3 na offL offF
    refine wpAny_handleBy_cons (codeAny_handlers_test ?_) (by intro q; cases q)
    have LM := PySem.W.exm_one (M := model X.prog X.w) (J3.kIn) (show PySem.W.Looks (model X.prog X.w) h3 (typeOf (.ref a)) cls from fun A Q E s k q => wpAny_typeOf_ref (k _ _ at3) (by rw [z3.1]; exact q)) hit
    have look : ∀ {Q : Value → Shared → Prop} {E : Value → Shared → Prop}, Q c { t with heap := h3 } → wpAny (model X.prog X.w) (X.A.mark (some (.ref a))) (eval (.Name x np) X.env) Q E { t with heap := h3 } := fun {Q E} q => by
      obtain ⟨hg, hdbg, hm | ⟨hm, hv, hnn⟩⟩ := nam
      · exact ld_glob (X := X.suite a ((a, o3) :: (X.pn ++ pins))) S3 hg hm q hdbg
      · exact ld_blt (X := X.suite a ((a, o3) :: (X.pn ++ pins))) S3 hg hm hv q hnn hdbg
    refine look (LM.here ?_)
    refine codeAny_handlers_suite_as ?_
    refine HandSPX.lands_againZ fl3 fun h4 fl4 up4 => ?_
    obtain ⟨o4, vs4, at4, z4, d4⟩ := fl4.there
    have S4 := (J.landed nb fl4.1 ((up.trans up3).trans up4) os ag : Inv X pins τ G { t with heap := h4 }).suite at4 d4 na offL offF
    refine store_ok (X := X.suite a ((a, o4) :: (X.pn ++ pins))) (v := .ref a) S4 nod hi (.inl loc) rfl (fun s5 S5 => ?_) (.inr loc)
    refine wpAny_mono ((sui a o4 cls d (X.pn ++ pins) z4 ⟨_, d4⟩).run [] s5 _ G _ S5 (yes a na)) (fun f s6 got => ?_) (fun _ _ z => False.elim z)
    have fin : ∀ {σ6 : L2.St} {H6 : Hp} {Q : Shared → Prop}, Inv (X.suite a ((a, o4) :: (X.pn ++ pins))) [] σ6 H6 s6 → (H6 a = none → ∀ s7, Inv X pins (σ6.set i none) (upd H6 a (ExK cls d a)) s7 → Q s7) →
        wpAny (model X.prog X.w) X.A (do bindName X.env n .none; unbindBehindTheSuite X.env n pos') (fun _ s7 => Q s7) X.xe s6 := fun {σ6 H6 Q} S6 hq => by
      obtain ⟨p1, p2, p3, p4, _⟩ := S6.pin (a, o4) (List.mem_append_left _ List.mem_cons_self)
      exact gone_ok (inv_keepX (S6.unsuite ok) p1 z4 d4 p2 new0 offL offPn) nod hi loc (hq p2)
    cases f with
    | next =>
      obtain ⟨σ6, H6, S6, q6⟩ := got
      exact fin S6 fun n6 s7 J7 => ⟨_, _, J7, q6 n6⟩
    | brk =>
      obtain ⟨σ6, H6, S6, q6⟩ := got
      exact fin S6 fun n6 s7 J7 => ⟨_, _, J7, q6 n6⟩
    | cont =>
      obtain ⟨σ6, H6, S6, q6⟩ := got
      exact fin S6 fun n6 s7 J7 => ⟨_, _, J7, q6 n6⟩
    | ret u =>
      obtain ⟨v6, σ6, H6, S6, r6, q6⟩ := got
      exact fin S6 fun n6 s7 J7 => ⟨_, _, _, J7, r6, q6 n6⟩
  · cases f with
    | next =>
      obtain ⟨τ, G, Jt, q⟩ := got
      exact wpAny_execs_nil ⟨τ, G, Jt.ofTry ok, q⟩
    | brk =>
      obtain ⟨τ, G, Jt, q⟩ := got
      exact ⟨τ, G, Jt.ofTry ok, q⟩
    | cont =>
      obtain ⟨τ, G, Jt, q⟩ := got
      exact ⟨τ, G, Jt.ofTry ok, q⟩
    | ret u =>
      obtain ⟨v, τ, G, Jt, r, q⟩ := got
      exact ⟨v, τ, G, Jt.ofTry ok, r, q⟩
end
end S1

/-! isinstance and fields of an exception that is kept. -/
namespace S1
section
open PySem PySem.W PySem.Spec PySem.Calls PyProof.Rows
variable {prog : Program} {w : World} {A : Around} {E : Value → Shared → Prop} {s : Shared} {K : Frag} {x D : Addr} {ox : Obj} {dt : Option Obj}
theorem findObj_desc {C : Addr} {name : Str} {a g : Value} (k : (clsIn K C).isSome = true) (k1 : findIn K (.ref C) name = some (some a)) (k2 : specialIn K a "__get__" = some (some g)) (k3 : takesIn K a = some true) : findObj K C dt name = some (.bind g a) := by
  obtain ⟨cd, k⟩ := Option.isSome_iff_exists.mp k
  unfold findObj; rw [k, Option.bind_some, k1, Option.bind_some]
  simp [k2, k3]
theorem kin_classX (C : L2.ExcC K D) {Q : Option Value → Shared → Prop} (X : K.In s.heap) (I : InstAt s.heap x ox D dt) (h : Q (some (.ref D)) { s with toks := s.toks + 1 }) : wpAny (model prog w) A (getAttr? (.ref x) "__class__") Q E s := by
  have fnd : findObj K D dt "__class__" = some (.bind (.builtin "getset_descriptor.__get__") (.builtin "object.__class__")) := findObj_desc (by obtain ⟨cd, hc, _⟩ := any_some C.hd; rw [hc]; rfl) C.ha C.hn C.ht
  obtain ⟨hp, g, d, t, os⟩ := s
  have T0 := I.type (M := model prog w)
  have T1 := looks_findIn (M := model prog w) X C.hg
  have T2 := looks_findIn (M := model prog w) X C.hk
  have T3 := looks_find (M := model prog w) X I fnd
  have isB : Looks (model prog w) hp (isInstance (.ref x) (.type "BaseException")) true := T0.andThen (looks_subIn X C.hs)
  have nb : (Value.builtin "BaseException.__getattribute__" == Value.builtin "object.__getattribute__") = false := by decide +kernel
  have nb1 : (onTheHeap (Value.ref D) && Value.builtin "BaseException.__getattribute__" == Value.builtin "object.__getattribute__") = false := by rw [nb]; rfl
  unfold getAttr? getAttrBy? getAttrBy; refine wpAny_bind (wpAny_mkText (wpAny_bind (wpAny_attempt (wpAny_holding (wpAny_bind (T0.at (wpAny_bind (T1.at ?_))))))))
  show wpAny _ _ (if (onTheHeap (Value.ref D) && Value.builtin "BaseException.__getattribute__" == Value.builtin "object.__getattribute__") = true then _ else _) _ _ _; rw [nb1, if_neg Bool.false_ne_true]
  unfold getAttrByItsOwn hookBefore; refine wpAny_bind ?_
  rw [if_pos (show onTheHeap (Value.ref D) = true from rfl)]; refine T2.at ?_
  refine wpAny_bind (wpAny_attempt (wpAny_holding ?_)); unfold callGetattribute
  rw [show (false && onTheHeap (Value.builtin "BaseException.__getattribute__")) = false from rfl, if_neg Bool.false_ne_true]
  unfold boundAndCalled; rw [PySem.F.excAttr_ValueError.ga.bind (.ref x)]
  refine wpAny_bind (wpAny_pure ?_); show wpAny _ _ (call (.builtin "BaseException.__getattribute__") [.ref x, .str "__class__" t]) _ _ _
  refine wpAny_call (codeAny_call_builtin PySem.F.excAttr_ValueError.ga.plain PySem.F.entry_bexc_ga (@check_slot (model prog w) _ _ ⟨hp, g, d, t + 1, os⟩ "BaseException.__getattribute__" "BaseException" "__getattribute__" (.ref x) [.str "__class__" t] [] _ (by decide +kernel) (by decide +kernel) isB (PySem.F.args_bexc_ga (.ref x) (.str "__class__" t)) ?_))
  unfold Builtin.«object.__getattribute__»; refine wpAny_bind (wpAny_of_eq (a := ((Value.ref x : Value), [Value.str "__class__" t])) (by first | rfl | (simp only [slotArgs]; rfl)) ?_)
  refine wpAny_bind (wpAny_pure (wpAny_bind (T0.at (wpAny_bind (T3.at ?_)))))
  show wpAny _ _ (holding [Value.builtin "object.__class__"] (call (.builtin "getset_descriptor.__get__") [.builtin "object.__class__", .ref x, .ref D]) >>= ret) _ _ _; refine wpAny_bind (wpAny_holding (wpAny_call (class_get (s := ⟨hp, g, d, t + 1, os⟩) (ox := ox) (od := dt) X I C.hm ?_)))
  refine wpAny_pure ?_; show wpAny _ _ (handedOut (.ref D)) _ _ _
  rw [handedOut_of (v := .ref D) rfl]
  first
    | exact wpAny_pure (wpAny_pure h)
    | exact wpAny_pure h
    | exact wpAny_pure (wpAny_bind (wpAny_pure (wpAny_pure h)))
theorem kitx_kept (C : L2.ExcC K D) : KitX K (.ref x) (.ref D) (fun h => InstAt h x ox D dt) where
  ty := fun _ _ _ I => I.type
  it := fun _ _ X _ => by
    obtain ⟨cd, hc, _⟩ := any_some C.hd
    unfold clsIn at hc
    split at hc
    · rename_i _ _ _ _ at_
      intro A' Q' E' s' k q
      unfold isType loadHead
      exact wpAny_bind (wpAny_loadPart (k _ _ (X _ _ at_)) (wpAny_pure q))
    · cases hc
  ne := fun h tp dd its n sl X htp => by
    obtain ⟨cd, hc, _⟩ := any_some C.hd
    refine Bool.eq_false_iff.mpr fun q => ?_
    obtain rfl : D = tp := Value.ref.inj (beq_iff_eq.mp q)
    unfold clsIn at hc
    split at hc
    · rename_i _ _ _ _ at_
      cases (X _ _ at_).symm.trans htp
    · cases hc
  ca := fun X I k => kin_classX C X I k
end
open PySem PySem.Spec PyProof.Rows L2 StX
/-- where such an exception stands, with its dict -/
theorem inst_kept {X : Cx} {pins : List (Addr × Obj)} {σ : L2.St} {H : Hp} {s : Shared} {a C : Addr} {dd : Addr} {fs : List (Str × V)} (I : Inv X pins σ H s) (e : H a = some (ExK (.ref C) (some dd) a)) (ed : H dd = some (.xd fs)) :
    ∃ (oe od : Obj) (mA : Str → Option Value), PySem.W.InstAt s.heap a oe C (some od) ∧ (∀ f, PySem.W.lookIn f od = some (mA f)) ∧ ∀ f, RelO (fs.lookup f) (mA f) := by
  obtain ⟨⟨oe, vs, ha, hz, hd⟩, _⟩ := (show ObjOk X.prog X.w H s.heap a (ExK (.ref C) (some dd) a) from I.hok a _ e)
  obtain ⟨mA, hns, hr⟩ := (show ObjOk X.prog X.w H s.heap dd (.xd fs) from I.hok dd _ ed)
  obtain ⟨od, ho, hl⟩ := lookIn_ns hns
  exact ⟨oe, od, mA, ⟨ha, hz.1, by unfold PySem.W.notCls; rw [hd] <;> rfl, by rw [hz.2]; exact ho⟩, hl, hr⟩
/-- isinstance(x, c), x such an exception -/
def rIsX (K : PySem.W.Frag) : List V → Hp → VK → Prop := fun xs H Q => ∃ (a C dd : Addr) (fs : List (Str × V)) (c : V) (u : Value) (b : Bool), xs = [.ref a, c] ∧ (∀ z, RelV c z → z = u) ∧ ExcC K C ∧ H a = some (ExK (.ref C) (some dd) a) ∧ H dd = some (.xd fs) ∧ PySem.W.kitOne K (.ref C) u = some b ∧ Q (.bl b) H
theorem call_isX {X : Cx} : CallR X (.builtin "isinstance") (rIsX X.K) := by
  intro pins s σ H xs us Q I r h
  obtain ⟨a, C, dd, fs, c, u, b, rfl, hc, T, e, ed, ek, q⟩ := h
  obtain ⟨u1, u2, rfl, r1, r2⟩ := vals2 r
  obtain rfl : u1 = Value.ref a := r1
  obtain rfl := hc _ r2
  obtain ⟨oe, od, mA, J, _, _⟩ := inst_kept I e ed
  exact PySem.W.kia_one (kitx_kept T) I.kIn J ek (fun z => nomatch z) fun tk => ⟨.bl b, H, I.kept (t' := tk) fun _ _ z => z, rfl, q⟩
/-- x.f -/
def tXk (K : PySem.W.Frag) (f : Str) (te : TE) : TE := fun σ H Q => te σ H fun x H1 => ∃ (a C dd : Addr) (fs : List (Str × V)) (v : V), x = .ref a ∧ XfC K C ∧ PySem.W.findIn K (.ref C) f = some none ∧ H1 a = some (ExK (.ref C) (some dd) a) ∧ H1 dd = some (.xd fs) ∧ fs.lookup f = some v ∧ Q v H1
theorem pe_xk {X : Cx} {e : Expr} {te : TE} {pos : Pos} {n : Str} (he : PE X e te) (hb : attributeBase e n X.env (eval e X.env) = eval e X.env := by rfl) : PE X (.Attribute e n pos) (tXk X.K n te) := by
  refine ⟨fun pins s σ H Q I h => ?_⟩
  refine attr_of hb (thn (he.run pins s σ H _ I h) fun u s1 hh => ?_)
  obtain ⟨x, H1, I1, rx, a, C, dd, fs, v, rfl, T, no, ea, ed, l, q⟩ := hh
  obtain rfl : u = Value.ref a := rx
  obtain ⟨oe, od, mA, J, hl, hr⟩ := inst_kept I1 ea ed
  obtain ⟨u, hu, ru⟩ := RelO.some_of (v := v) (o := mA n) (by rw [← l]; exact hr n)
  exact HandSPX.exc_get I1.kIn J T.ga T.gg T.exC (PySem.W.findObj_own T.hdC no rfl (by rw [hl, hu])) (handed_of ru) ⟨v, H1, I1.tok _, ru, q⟩
end S1

/-! Defs that are called where no repr is under way (A.guards = some []). -/
namespace S1
open PySem PySem.Spec PyProof.Rows L2 StX
structure FnG (P : Program) (w : World) (K : PySem.W.Frag) (mg : Str → Option Value) (base : Heap) (CX : CXT) (k : Nat) (f : Addr) (fd : FuncData) (ps : List Str) (sp : Sp) : Prop where
  len : ∀ vs H Q E, sp vs H Q E → vs.length = ps.length
  run : ∀ (A : Around) (outer : List Env) (s : Shared) (H : Hp) (args : Args) (us : List Value) (vs : List V) (Q : VK) (E : XK), A.guards = some [] → Room k A → Env0 P w K mg base A outer s H → BindsTo s fd args (ps.zip us) → Vals vs us → sp vs H Q E →
    codeAny (model P w) A (.call (.ref f) args) (CR CX outer P w H s Q E) s
/-- a def's own promise, where the room it runs in has no repr under way -/
theorem fnG_of {CX : CXT} {P : Program} {w : World} {K : PySem.W.Frag} {mg : Str → Option Value} {base : Heap} {x qual : Str} {params : Arguments} {body : List Stmt} {scope : Scope} {f : Addr} {fd : FuncData} {N ps : List Str} {k : Nat} {sp : Sp}
    (F : FunD K x qual params body scope [] [] f fd) (S : FnScope N ps scope) (len : ∀ vs H Q E, sp vs H Q E → vs.length = ps.length)
    (hbody : ∀ (cdv : Value) (A : Around) (outer : List Env) (s : Shared) (H : Hp) (vs : List V) (Q : VK) (E : XK), A.guards = some [] → Room k (A.deeper (envOfC qual scope s.heap.objs.size f cdv)) → sp vs H Q E →
      ∃ t, PSs (cxOf CX P w K mg base N qual scope f cdv A outer s H E) body t ∧ t { nx := fun _ H' => Q .non H', rt := Q } (L2.start N vs) H) : FnG P w K mg base CX (k + 1) f fd ps sp := by
  obtain ⟨oc, od, dV, kV, doc, pm, an, cdv, ct, osl, rfl, lk, hcd, _, _⟩ := F.ex
  refine ⟨len, fun A outer s H args us vs Q E gd room e0 bnd rel wish => ?_⟩
  have old : ∀ {b o}, base.get? b = some o → s.heap.get? b = some o := fun {b o} e => (e0.bs b o e).1
  have KX : K.In s.heap := e0.mod.kin.keeps fun b o e => old e
  refine codeAny_call_function room.depth (KX _ _ lk) rfl S.co S.gen rfl (PySem.W.codeRec_of KX hcd) (bnd _ _ _ _ ?_)
  refine wpAny_newFunctionEnv_cells S.kind (fun y hy => ?_) fun env he s1 x => ?_
  · exact (S.par y.1 (List.of_mem_zip hy).1).elim .inl fun q => .inr ⟨q, PySem.W.cellsFrom_some _ _ _ (.inl q)⟩
  · subst he
    obtain ⟨t, ht, hq⟩ := hbody cdv A outer s H vs Q E gd (room.deeper _) wish
    have I0 := inv_start (CX := CX) (E := E) (ps := ps) (us := us) S room.hd e0 (len _ _ _ _ wish) rel x
    refine ⟨(e0.mod.nolimit.keeps fun b o e => old e).keeps x.toInCall.keep, codeAny_func (wpAny_mono (ht.run [] s1 (L2.start N vs) H _ I0 hq) (fun fl s' hs => ?_) fun e s' hs => hs)⟩
    cases fl with
    | ret u =>
      obtain ⟨v, τ, G, J, rv, q⟩ := hs
      exact ⟨v, G, J.os, J.bare, J.base, J.hok, rv, q⟩
    | next =>
      obtain ⟨τ, G, J, q⟩ := hs
      exact ⟨V.non, G, J.os, J.bare, J.base, J.hok, rfl, q⟩
    | brk => exact False.elim (show False from hs.elim fun _ h => h.elim fun _ h => h.2)
    | cont => exact False.elim (show False from hs.elim fun _ h => h.elim fun _ h => h.2)
section
variable {X : Cx} {CX : CXT} {k : Nat} {f : Addr} {fd : FuncData} {ps : List Str} {sp : Sp} {E : XK} {x : Str} {p pos : Pos} {e : Expr} {es : List Expr} {t : TA}
theorem pe_callG (F : FnG X.prog X.w X.K X.mg X.base CX k f fd ps sp) (gd : X.A.guards = some []) (hr : Room k X.A) (hg : Gl X x) (hm : X.mg x = some (.ref f)) (hk : PySem.W.keepIn X.K (.ref f) = true) (hb : Binds X.K fd ps []) (hx : Passes CX X E)
    (ha : PA X (e :: es) t) (hdb : (x == ("__debug__" : Str)) = false := by decide) (he : starEach (e :: es) X.env = (false, eval e X.env) :: starEach es X.env := by rfl) (hpl : (backTo pos (starEach es X.env)).any (·.1) = false := by rfl) :
    PE X (.Call (.Name x p) (e :: es) [] pos) (tCall sp [] E t) := by
  refine ⟨fun pins s σ H Q I h => wpAny_Call_Name_kw (ld_glob I hg hm ?_ hdb)⟩
  refine PySem.W.callWith_K (h₀ := X.base) I.ok.mod.kin hk (thn (ha.run pos pins s σ H _ I h) fun us s1 ⟨vs, H1, I1, r, q⟩ => ⟨I1.kIn, ?_⟩) he hpl
  have r2 : Vals (vs ++ []) (us ++ []) := r.append .nil
  refine wpAny_call (codeAny_mono (F.run X.A X.stack s1 H1 ⟨us, []⟩ (us ++ []) (vs ++ []) Q E gd hr I1.env0 (hb s1 us I1.kIn (by rw [← r2.length]; exact F.len _ _ _ _ q)) r2 q) fun z s' hq => ?_)
  cases z with
  | error u => exact hx pins σ H1 s1 u s' I1 hq
  | ok fl =>
    cases fl with
    | ret u => exact I1.after hq
    | next => exact False.elim hq
    | brk => exact False.elim hq
    | cont => exact False.elim hq
end
end S1

/-! The head for a law whose def is called where no repr is under way. -/
namespace S1
open PySem PySem.Spec PyProof.Rows L2 StX
/-- the heap as the law meets it: at most the script is tracked -/
theorem first_heap {P : Program} {w : World} {K : PySem.W.Frag} {h : Heap} {a : Addr} {vs : List Value} {ns : List Int} (KX : K.In h) (ha : h.get? a = some { cls := .type "list", data := .seq vs.toArray }) (hi : IntsAre vs ns) (hl : ns.length ≤ sizeLine) :
    ∃ H : Hp, Only H ∧ SqL K H a (ns.map V.int) ∧ HOk P w H h ∧ ∀ b u, H b = some u → b = a ∧ K.lookup a = none := by
  have rv := vals_ints hi
  cases hk : K.lookup a with
  | some o =>
    have e := KX a o hk
    rw [ha] at e
    cases e
    exact ⟨fun _ => none, fun _ => .inl rfl, .inr ⟨_, vs.toArray, _, hk, rfl, rfl, rfl, by rw [List.size_toArray, hi.length]; exact hl, by simpa using rv⟩, fun b u z => (nomatch (show (none : Option HO) = some u from z)), fun b u z => (nomatch (show (none : Option HO) = some u from z))⟩
  | none =>
    let o : Obj := { cls := .type "list", data := .seq vs.toArray }
    let u0 : HO := .frz o (.lst (ns.map V.int))
    have at_ : ∀ {b u}, (if b = a then some u0 else none) = some u → b = a ∧ u = u0 := fun {b u} z => by
      by_cases c : b = a
      · rw [if_pos c] at z; exact ⟨c, (Option.some.inj z).symm⟩
      · rw [if_neg c] at z; cases z
    refine ⟨fun b => if b = a then some u0 else none, fun b => ?_, .inl (.inr ⟨o, if_pos rfl⟩), fun b u z => ?_, fun b u z => ⟨(at_ z).1, rfl⟩⟩
    · by_cases c : b = a
      · exact .inr ⟨o, _, if_pos c⟩
      · exact .inl (if_neg c)
    · obtain ⟨rfl, rfl⟩ := at_ z
      exact ⟨ha, by rw [List.length_map]; exact hl, vs, _, rv, ha⟩
theorem law_runG {P : Program} {w : World} {K : PySem.W.Frag} {mg mb : Str → Option Value} {k : Nat} {fa a : Addr} {fd : FuncData} {x : Str} {sp : Sp} {s₁ : Shared} {vs : List Value} {ns : List Int} (KX : K.In s₁.heap) (hns : s₁.heap.Ns mainGlobals mg) (hb : s₁.heap.Ns builtinsNs mb) (hbb : ∀ x : Str, x ≠ "__name__" → mb x = bootBuiltins x) (hlim : s₁.heap.NoLimit) (hg : s₁.gens = #[])
    (ha : s₁.heap.get? a = some { cls := .type "list", data := .seq vs.toArray }) (hi : IntsAre vs ns) (hl : ns.length ≤ sizeLine) (hr : Room k callerA) (F : ∀ base : Heap, K.In base → base.Ns mainGlobals mg → FnG P w K mg base CX0 k fa fd [x] sp) (bnd : ∀ (s : Shared) (u : Value), BindsTo s fd ⟨[u], []⟩ [(x, u)])
    (wish : ∀ H : Hp, Only H → SqL K H a (ns.map V.int) → sp [.ref a] H (fun v _ => v = .bl true) fun _ _ _ => False) :
    codeAny (model P w) callerA (.call (.ref fa) ⟨[.ref a], []⟩) (fun r s' => r = .ok (.ret (.bool true)) ∧ OldK s₁.heap s'.heap ∧ s'.os = s₁.os ∧ AllBare s'.gens) s₁ := by
  obtain ⟨H, only, hS, hok, hA⟩ := first_heap (P := P) (w := w) KX ha hi hl
  have off : ∀ {b o}, s₁.heap.get? b = some o → (∀ vs n, o.data ≠ .seq vs n) → (hidT s₁.heap H).get? b = some o := fun {b o} e d => hidT_get e (by
    cases q : H b with
    | none => rfl
    | some u =>
      rw [(hA b u q).1, ha] at e
      cases e
      exact absurd rfl (d _ _))
  have nsB : ∀ {b m}, s₁.heap.Ns b m → (hidT s₁.heap H).Ns b m := fun {b m} ⟨o, es, ep, e, d, r⟩ => ⟨o, es, ep, off e (fun _ _ z => by rw [d] at z; cases z), d, r⟩
  have inB : K.In (hidT s₁.heap H) := fun b o e => hidT_get (KX b o e) (by
    cases q : H b with
    | none => rfl
    | some u =>
      obtain ⟨z, n⟩ := hA b u q
      rw [z, n] at e
      cases e)
  have md : Mod K mg (hidT s₁.heap H) := ⟨inB, nsB hns, ⟨mb, nsB hb, hbb⟩, hlim.elim fun mc h => ⟨mc, nsB h.1, h.2⟩⟩
  have e0 : Env0 P w K mg (hidT s₁.heap H) callerA [] s₁ H := ⟨rfl, md, fun b o e => of_hidT e, Nat.le_of_eq (hidT_size _ _), trivial, fun b hb => (nomatch (show b ∈ ([] : List Addr) from hb)), hok, .of_eq hg⟩
  refine codeAny_mono ((F _ inB (nsB hns)).run callerA [] s₁ H ⟨[.ref a], []⟩ [.ref a] [.ref a] _ _ rfl hr e0 (bnd s₁ (.ref a)) (.cons rfl .nil) (wish H only hS)) fun r s' h => ?_
  cases r with
  | error e => exact False.elim h
  | ok fl =>
    cases fl with
    | next => exact False.elim h
    | brk => exact False.elim h
    | cont => exact False.elim h
    | ret u =>
      obtain ⟨v, G, os, bare, un, okG, rel, rfl⟩ := h
      obtain rfl : u = Value.bool true := rel
      refine ⟨rfl, OldK.of_keep fun b o e => ?_, os, bare⟩
      cases q : H b with
      | none => exact un.keep b o e q (fun z => (nomatch (show b ∈ ([] : List Addr) from z))) (fun z => nomatch z)
      | some u =>
        rcases only b with z | ⟨ob, xs, z⟩
        · rw [q] at z
          cases z
        · have e2 := (okG b _ (un.frzs b ob _ z)).1
          have e1 := (hok b _ z).1
          rw [e] at e1
          cases e1
          exact e2
theorem walkG {l : PySem.W.OpenLaw} {n k : Nat} {q : Program} {loose : List Str} {XP : (Str → Option Value) → Heap → Prop} {YP : World → Heap → Prop} {d : DefRec} {K : Params → PySem.W.Frag} {sp : World → Sp} {x : Str} (hn : l.most = some n) (hn2 : n ≤ sizeLine) (hdf : d.params.defaults = []) (hr : Room k callerA) (hY : ∀ (w : World) (h : Heap), YP w h → (K w.params).In h)
    (F : ∀ (w : World) (mg : Str → Option Value) (fa : Addr) (h : Heap), (K w.params).In h → h.Ns mainGlobals mg → mg d.name = some (.ref fa) → ∃ fd : FuncData, (∀ (s : Shared) (u : Value), BindsTo s fd ⟨[u], []⟩ [(x, u)]) ∧ ∀ base : Heap, (K w.params).In base → base.Ns mainGlobals mg → FnG l.prog w (K w.params) mg base CX0 k fa fd [x] (sp w))
    (wish : ∀ (w : World) (H : Hp) (a : Addr) (ns : List Int), ns.length ≤ n → (∀ z ∈ ns, Builtin.Int.intBits z ≤ 1048576) → Only H → SqL (K w.params) H a (ns.map V.int) → sp w [.ref a] H (fun v _ => v = .bl true) fun _ _ _ => False) : PySem.W.WalkO q loose XP YP l.row.toRowW d [] (fun f vs => PySem.call f vs) := by
  refine Att.attach_callB hn hdf fun w s₀ s₁ mg mb fa o pm cd doc a vs ns G Y ho hd hcd hmg hobj hints hlen hbits hg => ?_
  have KX := hY w _ Y
  obtain ⟨fd, bnd, f⟩ := F w mg fa _ KX G.T.g hmg
  exact law_runG KX G.T.g G.T.b G.T.builtins G.T.nolimit hg hobj hints (Nat.le_trans hlen hn2) hr f bnd fun H hO hS => wish w H a ns hlen hbits hO hS
end S1

/-! The head for a law that makes lambdas (tables of code objects) and asks that no repr be under way. -/
namespace S1
open PySem PySem.Spec PyProof.Rows L2 StX LamX
/-- the abstract heap told by the script and the tables -/
theorem tabs_heap {P : Program} {w : World} {K : PySem.W.Frag} {h : Heap} {a : Addr} {vs : List Value} {ns : List Int} {ts : List Addr} (KX : K.In h) (ha : h.get? a = some { cls := .type "list", data := .seq vs.toArray }) (hi : IntsAre vs ns) (hl : ns.length ≤ sizeLine)
    (hT : ∀ t ∈ ts, h.get? t = some { cls := .none, data := .fields #[] } ∧ K.lookup t = none) :
    ∃ H : Hp, (∀ b u, H b = some u → K.lookup b = none ∧ ((b ∈ ts ∧ u = .tbl #[]) ∨ (b = a ∧ ∃ o xs, u = .frz o (.lst xs)))) ∧ SqL K H a (ns.map V.int) ∧ HOk P w H h ∧ ∀ t ∈ ts, H t = some (.tbl #[]) := by
  obtain ⟨H0, only, hS, hok, hA⟩ := first_heap (P := P) (w := w) KX ha hi hl
  have aT : a ∉ ts := fun z => by
    have q := (hT a z).1
    rw [ha] at q
    cases q
  have off : ∀ {b}, b ∈ ts → H0 b = none := fun {b} hb => by
    cases q : H0 b with
    | none => rfl
    | some u => exact absurd ((hA b u q).1 ▸ hb) aT
  have ext : ∀ b u, H0 b = some u → (if b ∈ ts then some (HO.tbl #[]) else H0 b) = some u := fun b u q => by
    by_cases hb : b ∈ ts
    · rw [off hb] at q
      cases q
    · rw [if_neg hb]
      exact q
  refine ⟨fun b => if b ∈ ts then some (.tbl #[]) else H0 b, fun b u z => ?_, hS.ext ext, fun b u z => ?_, fun t ht => if_pos ht⟩
  · by_cases hb : b ∈ ts
    · have z' := (if_pos hb).symm.trans z
      cases z'
      exact ⟨(hT b hb).2, .inl ⟨hb, rfl⟩⟩
    · have z' : H0 b = some u := (if_neg hb).symm.trans z
      refine ⟨(hA b u z').1 ▸ (hA b u z').2, .inr ⟨(hA b u z').1, ?_⟩⟩
      rcases only b with q | ⟨o, xs, q⟩
      · rw [q] at z'
        cases z'
      · rw [q] at z'
        cases z'
        exact ⟨o, xs, rfl⟩
  · by_cases hb : b ∈ ts
    · have z' := (if_pos hb).symm.trans z
      cases z'
      exact (hT b hb).1
    · have z' : H0 b = some u := (if_neg hb).symm.trans z
      have k := hok b u z'
      rcases only b with q | ⟨o, xs, q⟩
      · rw [q] at z'
        cases z'
      · rw [q] at z'
        cases z'
        exact k
theorem law_runTG {P : Program} {w : World} {K : PySem.W.Frag} {mg mb : Str → Option Value} {k : Nat} {fa a : Addr} {cs : List (Addr × Addr)} {fd : FuncData} {x : Str} {sp : Sp} {s₁ : Shared} {vs : List Value} {ns : List Int} (KX : K.In s₁.heap) (hns : s₁.heap.Ns mainGlobals mg) (hb : s₁.heap.Ns builtinsNs mb) (hbb : ∀ x : Str, x ≠ "__name__" → mb x = bootBuiltins x) (hlim : s₁.heap.NoLimit) (hg : s₁.gens = #[])
    (hT : ∀ p ∈ cs, s₁.heap.get? p.2 = some { cls := .none, data := .fields #[] }) (nT : ∀ p ∈ cs, K.lookup p.2 = none) (C : ∀ p ∈ cs, PySem.W.CodeHd s₁.heap p.1 p.2)
    (hbm : ∃ (bm : Addr) (ob : Obj), mg "__builtins__" = some (.ref bm) ∧ bm ≠ builtinsNs ∧ s₁.heap.get? bm = some ob ∧ ob.cls = .type "module" ∧ ob.dict = some builtinsNs ∧ ob.data = .plain)
    (ha : s₁.heap.get? a = some { cls := .type "list", data := .seq vs.toArray }) (hi : IntsAre vs ns) (hl : ns.length ≤ sizeLine) (hr : Room k callerA) (F : ∀ base : Heap, K.In base → base.Ns mainGlobals mg → (∀ p ∈ cs, TabB base mg p.1 p.2) → FnG P w K mg base CX0 k fa fd [x] sp) (bnd : ∀ (s : Shared) (u : Value), BindsTo s fd ⟨[u], []⟩ [(x, u)])
    (wish : ∀ H : Hp, (∀ p ∈ cs, H p.2 = some (.tbl #[])) → SqL K H a (ns.map V.int) → sp [.ref a] H (fun v _ => v = .bl true) fun _ _ _ => False) :
    codeAny (model P w) callerA (.call (.ref fa) ⟨[.ref a], []⟩) (fun r s' => r = .ok (.ret (.bool true)) ∧ OldK s₁.heap s'.heap ∧ s'.os = s₁.os ∧ AllBare s'.gens) s₁ := by
  obtain ⟨H, told, hS, hok, tabs⟩ := tabs_heap (P := P) (w := w) (ts := cs.map (·.2)) KX ha hi hl fun t ht => by
    obtain ⟨p, hp, rfl⟩ := List.mem_map.mp ht
    exact ⟨hT p hp, nT p hp⟩
  have isT : ∀ p ∈ cs, p.2 ∈ cs.map (·.2) := fun p hp => List.mem_map.mpr ⟨p, hp, rfl⟩
  have none_ : ∀ {b o}, s₁.heap.get? b = some o → (∀ xs n, o.data ≠ .seq xs n) → o.data ≠ .fields #[] → H b = none := fun {b o} e d1 d2 => by
    cases q : H b with
    | none => rfl
    | some u =>
      rcases (told b u q).2 with ⟨hm, _⟩ | ⟨rfl, _⟩
      · obtain ⟨p, hp, rfl⟩ := List.mem_map.mp hm
        rw [hT p hp] at e
        cases e
        exact absurd rfl d2
      · rw [ha] at e
        cases e
        exact absurd rfl (d1 _ _)
  have nsB : ∀ {b m}, s₁.heap.Ns b m → (hidT s₁.heap H).Ns b m := fun {b m} ⟨o, es, ep, e, d, r⟩ => ⟨o, es, ep, hidT_get e (none_ e (fun _ _ z => by rw [d] at z; cases z) (fun z => by rw [d] at z; cases z)), d, r⟩
  have inB : K.In (hidT s₁.heap H) := fun b o e => hidT_get (KX b o e) (by
    cases q : H b with
    | none => rfl
    | some u =>
      have n := (told b u q).1
      rw [n] at e
      cases e)
  have md : Mod K mg (hidT s₁.heap H) := ⟨inB, nsB hns, ⟨mb, nsB hb, hbb⟩, hlim.elim fun mc h => ⟨mc, nsB h.1, h.2⟩⟩
  have tb : ∀ p ∈ cs, TabB (hidT s₁.heap H) mg p.1 p.2 := fun p hp => by
    have t := hT p hp
    obtain ⟨bm, ob, b1, b2, b3, b4, b5, b6⟩ := hbm
    have nG : bm ≠ mainGlobals := fun q => by
      obtain ⟨o, es, ep, e, d, _⟩ := hns
      rw [← q, b3] at e
      cases e
      rw [b6] at d
      cases d
    have nP : bm ≠ p.2 := fun q => by
      rw [q, t] at b3
      cases b3
      cases b6
    refine ⟨?_, ⟨bm, ob, b1, b2, nG, nP, hidT_get b3 (none_ b3 (fun _ _ z => by rw [b6] at z; cases z) (fun z => by rw [b6] at z; cases z)), b4, b5, b6⟩, fun q => ?_⟩
    · obtain ⟨o, us, file, tf, flags, tg, inF, text, tt, e1, r1, r2, r3, r4⟩ := C p hp
      refine ⟨o, us, file, tf, flags, tg, inF, text, tt, hidT_get e1 (none_ e1 (fun _ _ z => by rw [r2] at z; cases z) (fun z => ?_)), r1, r2, r3, r4⟩
      rw [r2] at z
      cases z
      simp at r3
    · obtain ⟨o, es, ep, e, d, _⟩ := hns
      rw [q, t] at e
      cases e
      cases d
  have e0 : Env0 P w K mg (hidT s₁.heap H) callerA [] s₁ H := ⟨rfl, md, fun b o e => of_hidT e, Nat.le_of_eq (hidT_size _ _), trivial, fun b hb => (nomatch (show b ∈ ([] : List Addr) from hb)), hok, .of_eq hg⟩
  refine codeAny_mono ((F _ inB (nsB hns) tb).run callerA [] s₁ H ⟨[.ref a], []⟩ [.ref a] [.ref a] _ _ rfl hr e0 (bnd s₁ (.ref a)) (.cons rfl .nil) (wish H (fun p hp => tabs _ (isT p hp)) hS)) fun r s' h => ?_
  cases r with
  | error e => exact False.elim h
  | ok fl =>
    cases fl with
    | next => exact False.elim h
    | brk => exact False.elim h
    | cont => exact False.elim h
    | ret u =>
      obtain ⟨v, G, os, bare, un, okG, rel, rfl⟩ := h
      obtain rfl : u = Value.bool true := rel
      have stays : ∀ b o, b ∉ cs.map (·.2) → s₁.heap.get? b = some o → s'.heap.get? b = some o := fun b o nb e => by
        cases q : H b with
        | none => exact un.keep b o e q (fun z => (nomatch (show b ∈ ([] : List Addr) from z))) (fun z => nomatch z)
        | some u =>
          rcases (told b u q).2 with ⟨hm, _⟩ | ⟨_, ob, xs, rfl⟩
          · exact absurd hm nb
          · have e2 := (okG b _ (un.frzs b ob _ q)).1
            have e1 := (hok b _ q).1
            rw [e] at e1
            cases e1
            exact e2
      have more : ∀ p ∈ cs, ∃ ps : Array Value, s'.heap.get? p.2 = some { cls := .none, data := .fields ps } := fun p hp => by
        obtain ⟨ps, z⟩ := un.tbls p.2 #[] (tabs _ (isT p hp))
        exact ⟨_, okG p.2 _ z⟩
      refine ⟨rfl, ⟨fun b o e => ?_, fun b o e => ?_⟩, os, bare⟩
      · by_cases hm : b ∈ cs.map (·.2)
        · obtain ⟨p, hp, rfl⟩ := List.mem_map.mp hm
          obtain ⟨ps, z⟩ := more p hp
          rw [hT p hp] at e
          cases e
          exact .inr (.inl ⟨((C p hp).tab (hT p hp)).isCodeTable, rfl, #[], ps, rfl, by rw [Array.empty_append]; exact z⟩)
        · exact .inl (stays b o hm e)
      · by_cases hm : b ∈ cs.map (·.2)
        · obtain ⟨p, hp, rfl⟩ := List.mem_map.mp hm
          obtain ⟨ps, z⟩ := more p hp
          exact ⟨_, z⟩
        · exact ⟨o, stays b o hm e⟩
/-- what is known of the law at the head's heap h: its def, the tables of its lambdas, its promise -/
def AtTG (l : PySem.W.OpenLaw) (w : World) (K : PySem.W.Frag) (k n : Nat) (x : Str) (mg : Str → Option Value) (fa : Addr) (h : Heap) : Prop :=
  ∃ (fd : FuncData) (cs : List (Addr × Addr)) (sp : Sp), (∀ p ∈ cs, h.get? p.2 = some { cls := .none, data := .fields #[] } ∧ K.lookup p.2 = none ∧ PySem.W.CodeHd h p.1 p.2) ∧ (∀ (s : Shared) (u : Value), BindsTo s fd ⟨[u], []⟩ [(x, u)]) ∧
    (∀ (H : Hp) (a : Addr) (ns : List Int), ns.length ≤ n → (∀ p ∈ cs, H p.2 = some (.tbl #[])) → SqL K H a (ns.map V.int) → sp [.ref a] H (fun v _ => v = .bl true) fun _ _ _ => False) ∧
    ∀ base : Heap, K.In base → base.Ns mainGlobals mg → (∀ p ∈ cs, TabB base mg p.1 p.2) → FnG l.prog w K mg base CX0 k fa fd [x] sp
theorem walkTG {l : PySem.W.OpenLaw} {n k : Nat} {q : Program} {loose : List Str} {XP : (Str → Option Value) → Heap → Prop} {YP : World → Heap → Prop} {d : DefRec} {K : Params → PySem.W.Frag} {x : Str} (hn : l.most = some n) (hn2 : n ≤ sizeLine) (hdf : d.params.defaults = []) (hr : Room k callerA) (hY : ∀ (w : World) (h : Heap), YP w h → (K w.params).In h)
    (F : ∀ (w : World) (mg : Str → Option Value) (fa : Addr) (h : Heap), YP w h → (K w.params).In h → h.Ns mainGlobals mg → mg d.name = some (.ref fa) → AtTG l w (K w.params) k n x mg fa h) : PySem.W.WalkO q loose XP YP l.row.toRowW d [] (fun f vs => PySem.call f vs) := by
  refine Att.attach_callB hn hdf fun w s₀ s₁ mg mb fa o pm cd doc a vs ns G Y ho hd hcd hmg hobj hints hlen hbits hg => ?_
  have KX := hY w _ Y
  obtain ⟨fd, cs, sp, c, bnd, wish, f⟩ := F w mg fa _ Y KX G.T.g hmg
  exact law_runTG KX G.T.g G.T.b G.T.builtins G.T.nolimit hg (fun p hp => (c p hp).1) (fun p hp => (c p hp).2.1) (fun p hp => (c p hp).2.2) G.T.bmain hobj hints (Nat.le_trans hlen hn2) hr f bnd fun H hH hS => wish H a ns hlen hH hS
end S1

/-! zip of any lists and tuples, beside one another. -/
namespace FZ
open PySem PySem.Spec PyProof.Rows L2
/-- one of the things walked abreast: a tuple or a list at l, its iterator at it -/
structure Cp where
  t : Bool
  it : Addr
  l : Addr
  xs : Array Value
def CpAt (h : Heap) (i : Nat) (c : Cp) : Prop := if c.t = true then h.IsTupleIter c.it c.l i ∧ h.IsTuple c.l c.xs else h.IsListIter c.it c.l i ∧ h.IsList c.l c.xs
theorem CpAt.stay {h h' : Heap} {i : Nat} {c : Cp} (x : CpAt h i c) (k1 : ∀ o, h.get? c.it = some o → h'.get? c.it = some o) (k2 : ∀ o, h.get? c.l = some o → h'.get? c.l = some o) : CpAt h' i c := by
  unfold CpAt at x ⊢
  split at x
  · rename_i q
    rw [if_pos q]
    obtain ⟨⟨o, a, b⟩, u, d, e⟩ := x
    exact ⟨⟨o, k1 o a, b⟩, u, k2 u d, e⟩
  · rename_i q
    rw [if_neg q]
    obtain ⟨⟨o, a, b⟩, u, d, e⟩ := x
    exact ⟨⟨o, k1 o a, b⟩, u, k2 u d, e⟩
theorem CpAt.there {h : Heap} {i : Nat} {c : Cp} (x : CpAt h i c) : ∃ o, h.get? c.it = some o ∧ ∀ v, o.data ≠ .cell v := by
  unfold CpAt at x
  split at x
  · obtain ⟨⟨o, a, _, b⟩, _⟩ := x
    exact ⟨o, a, fun v q => by rw [b] at q; cases q⟩
  · obtain ⟨⟨o, a, _, b⟩, _⟩ := x
    exact ⟨o, a, fun v q => by rw [b] at q; cases q⟩
section
variable {prog : Program} {w : World} {A : Around} {E : Value → Shared → Prop} {s : Shared}
theorem same_put {a : Addr} {h h' : Heap} (sb : Heap.SameBut a h h') {b : Addr} (n : b ≠ a) {o : Obj} (e : h.get? b = some o) : h'.get? b = some o := (sb.2 b n).trans e
theorem next_c {c : Cp} {i : Nat} {x : Value} {Q : Value → Shared → Prop} (hc : CpAt s.heap i c) (ne : c.l ≠ c.it) (hx : c.xs[i]? = some x)
    (hQ : ∀ h', CpAt h' (i + 1) c → Heap.SameBut c.it s.heap h' → Q x { s with heap := h' }) : wpAny (model prog w) A (Builtin.SmallTypes.nextOf (.ref c.it)) Q E s := by
  unfold CpAt at hc
  split at hc
  · rename_i q
    refine RZ.nextOf_tuple_item hc.1 hc.2 hx fun h' a sb => hQ h' ?_ sb
    obtain ⟨u, d, e⟩ := hc.2
    unfold CpAt
    rw [if_pos q]
    exact ⟨a, u, same_put sb ne d, e⟩
  · rename_i q
    refine wpAny_nextOf_list_item hc.1 hc.2 hx fun h' a sb => hQ h' ?_ sb
    obtain ⟨u, d, e⟩ := hc.2
    unfold CpAt
    rw [if_neg q]
    exact ⟨a, u, same_put sb ne d, e⟩
theorem next_cE {c : Cp} {i : Nat} {Q : Value → Shared → Prop} (hh : A.handled = none) (hc : CpAt s.heap i c) (hx : c.xs[i]? = none)
    (hE : ∀ h' e, Heap.ExtBut c.it s.heap h' → (∃ o, h'.get? e = some o ∧ o.cls = .type "StopIteration") → E (.ref e) { s with heap := h' }) : wpAny (model prog w) A (Builtin.SmallTypes.nextOf (.ref c.it)) Q E s := by
  unfold CpAt at hc
  split at hc
  · exact RZ.nextOf_tuple_end hh hc.1 hc.2 hx hE
  · exact wpAny_nextOf_list_end hh hc.1 hc.2 hx hE
/-- a for over numbered items whose state does not change -/
theorem forIn_idx {α β : Type} {M : Model} {r : β} {f : α × Nat → β → Sem (ForInStep β)} (I : Nat → Shared → Prop) {Q : β → Shared → Prop} : ∀ (l : List α) (k : Nat) (s : Shared),
    (∀ j x s, l[j]? = some x → I (k + j) s → wpAny M A (f (x, k + j) r) (fun st s' => st = .yield r ∧ I (k + j + 1) s') E s) → I k s → (∀ s', I (k + l.length) s' → Q r s') → wpAny M A (forIn (l.zipIdx k) r f) Q E s
  | [], k, s, _, h0, hQ => by
    rw [List.zipIdx_nil, List.forIn_nil]
    exact wpAny_pure (hQ s h0)
  | x :: l, k, s, hs, h0, hQ => by
    rw [List.zipIdx_cons, List.forIn_cons]
    refine wpAny_bind (wpAny_mono (hs 0 x s rfl h0) (fun st s' ⟨e, i⟩ => ?_) fun _ _ z => z)
    subst e
    refine forIn_idx I l (k + 1) s' (fun j y s2 hj i2 => ?_) i fun s2 i2 => hQ s2 ?_
    · have := hs (j + 1) y s2 (by simpa using hj) (by rw [show k + (j + 1) = k + 1 + j by omega]; exact i2)
      rw [show k + (j + 1) = k + 1 + j by omega] at this
      exact this
    · rw [List.length_cons, show k + (l.length + 1) = k + 1 + l.length by omega]
      exact i2
/-- the addresses stand apart -/
structure Apart (z TI TO : Addr) (cs : List Cp) : Prop where
  nd : (z :: TO :: TI :: cs.map (·.it)).Nodup
  ls : ∀ c ∈ cs, c.l ≠ z ∧ c.l ≠ TO ∧ ∀ d ∈ cs, c.l ≠ d.it
theorem Apart.inj {z TI TO : Addr} {cs : List Cp} (D : Apart z TI TO cs) {i j : Nat} {c d : Cp} (hi : cs[i]? = some c) (hj : cs[j]? = some d) (e : c.it = d.it) : i = j := by
  have nd := (List.nodup_cons.mp (List.nodup_cons.mp (List.nodup_cons.mp D.nd).2).2).2
  have h1 : (cs.map (·.it))[i]? = some c.it := by rw [List.getElem?_map, hi]; rfl
  have h2 : (cs.map (·.it))[j]? = some c.it := by rw [List.getElem?_map, hj, e]; rfl
  exact (List.getElem?_inj (List.getElem?_eq_some_iff.mp h1).1 nd).mp (h1.trans h2.symm)
theorem Apart.ne {z TI TO : Addr} {cs : List Cp} (D : Apart z TI TO cs) {c : Cp} (h : c ∈ cs) : c.it ≠ z ∧ c.it ≠ TO ∧ c.it ≠ TI ∧ TO ≠ z ∧ TI ≠ z ∧ TI ≠ TO := by
  have n1 := List.nodup_cons.mp D.nd
  have n2 := List.nodup_cons.mp n1.2
  have n3 := List.nodup_cons.mp n2.2
  have m : c.it ∈ cs.map (·.it) := List.mem_map.mpr ⟨c, h, rfl⟩
  refine ⟨fun q => n1.1 ?_, fun q => n2.1 ?_, fun q => n3.1 ?_, fun q => n1.1 ?_, fun q => n1.1 ?_, fun q => n2.1 ?_⟩
  · rw [← q]; exact List.mem_cons_of_mem _ (List.mem_cons_of_mem _ m)
  · rw [← q]; exact List.mem_cons_of_mem _ m
  · rw [← q]; exact m
  · rw [← q]; exact List.mem_cons_self
  · rw [← q]; exact List.mem_cons_of_mem _ List.mem_cons_self
  · rw [← q]; exact List.mem_cons_self
abbrev IsSeqT (h : Heap) (T : Addr) (a : Array Value) : Prop := h.get? T = some { cls := .type "tuple", data := .seq a }
/-- ahead of the k-th draw -/
structure Drawn (h0 : Heap) (z TI TO : Addr) (cs : List Cp) (i : Nat) (out : Nat → Value) (k : Nat) (h : Heap) : Prop where
  zip : IsZip h z TI TO .ellipsis
  ti : IsSeqT h TI (cs.map fun c => Value.ref c.it).toArray
  to : ∃ b : Array Value, IsSeqT h TO b ∧ b.size = cs.length ∧ ∀ j, j < k → b[j]? = some (out j)
  old : ∀ j c, k ≤ j → cs[j]? = some c → CpAt h i c
  new : ∀ j c, j < k → cs[j]? = some c → CpAt h (i + 1) c
  keep : ∀ b o, b ≠ z → b ≠ TO → (∀ c ∈ cs, b ≠ c.it) → h0.get? b = some o → h.get? b = some o
  size : h.objs.size = h0.objs.size
/-- one draw -/
theorem Drawn.step {h0 h h2 h3 : Heap} {z TI TO : Addr} {cs : List Cp} {i k : Nat} {out : Nat → Value} {c : Cp} {b : Array Value} (D : Apart z TI TO cs) (d : Drawn h0 z TI TO cs i out k h) (hc : cs[k]? = some c) (hb : IsSeqT h TO b)
    (c2 : CpAt h2 (i + 1) c) (s2 : Heap.SameBut c.it h h2) (s3 : Heap.SameBut TO h2 h3) (h3t : IsSeqT h3 TO (b.setIfInBounds k (out k))) : Drawn h0 z TI TO cs i out (k + 1) h3 := by
  obtain ⟨n1, n2, n3, n4, n5, n6⟩ := D.ne (List.mem_of_getElem? hc)
  have kk : k < cs.length := (List.getElem?_eq_some_iff.mp hc).1
  obtain ⟨b', hb', hz, ho⟩ := d.to
  obtain rfl : b' = b := by
    have q := hb'.symm.trans hb
    cases q
    rfl
  have up : ∀ a o, a ≠ c.it → a ≠ TO → h.get? a = some o → h3.get? a = some o := fun a o x y q => same_put s3 y (same_put s2 x q)
  refine ⟨up _ _ n1.symm n4.symm d.zip, up _ _ n3.symm n6 d.ti, ⟨_, h3t, by rw [Array.size_setIfInBounds]; exact hz, fun j hj => ?_⟩, fun j e hj he => ?_, fun j e hj he => ?_, fun a o x y w q => up a o (w c (List.mem_of_getElem? hc)) y (d.keep a o x y w q), by rw [s3.1, s2.1, d.size]⟩
  · by_cases q : j = k
    · subst q
      rw [Array.getElem?_setIfInBounds_self_of_lt (by rw [hz]; exact kk)]
    · rw [Array.getElem?_setIfInBounds_ne (fun x => q x.symm)]
      exact ho j (by omega)
  · have ne : e.it ≠ c.it := fun q => by
      have := D.inj he hc q
      omega
    have me := List.mem_of_getElem? he
    obtain ⟨m1, m2, _⟩ := D.ne me
    obtain ⟨l1, l2, l3⟩ := D.ls e me
    exact (d.old j e (by omega) he).stay (fun o q => up _ o ne m2 q) fun o q => up _ o (l3 c (List.mem_of_getElem? hc)) l2 q
  · have me := List.mem_of_getElem? he
    obtain ⟨m1, m2, _⟩ := D.ne me
    obtain ⟨l1, l2, l3⟩ := D.ls e me
    by_cases q : j = k
    · subst q
      rw [hc] at he
      cases he
      exact c2.stay (fun o q => same_put s3 m2 q) fun o q => same_put s3 l2 q
    · have ne : e.it ≠ c.it := fun x => q (D.inj he hc x)
      exact (d.new j e (by omega) he).stay (fun o q => up _ o ne m2 q) fun o q => up _ o (l3 c (List.mem_of_getElem? hc)) l2 q
/-- next(z): every one has a next item, or one has none -/
theorem next_zip {z TI TO : Addr} {cs : List Cp} {i : Nat} {b0 : Array Value} {out : Nat → Value} {Q : Value → Shared → Prop} (hh : A.handled = none) (D : Apart z TI TO cs) (hne : cs ≠ []) (hz : IsZip s.heap z TI TO .none) (hTI : IsSeqT s.heap TI (cs.map fun c => Value.ref c.it).toArray) (hTO : IsSeqT s.heap TO b0) (hb : b0.size = cs.length) (hl : cs.length ≤ 100)
    (hc : ∀ (j : Nat) (c : Cp), cs[j]? = some c → CpAt s.heap i c) (ho : ∀ (j : Nat) (c : Cp) (x : Value), cs[j]? = some c → c.xs[i]? = some x → out j = x)
    (hQ : (∀ (j : Nat) (c : Cp), cs[j]? = some c → (c.xs[i]?).isSome = true) → ∀ h' b, IsZip h' z TI TO (rawInt s.heap.objs.size) → IsSeqT h' TI (cs.map fun c => Value.ref c.it).toArray → IsSeqT h' TO b → b.size = cs.length → (∀ (j : Nat) (c : Cp), cs[j]? = some c → CpAt h' (i + 1) c) → IsSeqT h' s.heap.objs.size ((List.range cs.length).map out).toArray → h'.objs.size = s.heap.objs.size + 1 →
      (∀ a o, a ≠ z → a ≠ TO → (∀ c ∈ cs, a ≠ c.it) → s.heap.get? a = some o → h'.get? a = some o) → Q (.ref s.heap.objs.size) { s with heap := h' })
    (hE : (∃ (j : Nat) (c : Cp), cs[j]? = some c ∧ c.xs[i]? = none) → ∀ h' e, (∀ a o, a ≠ z → a ≠ TO → (∀ c ∈ cs, a ≠ c.it) → s.heap.get? a = some o → h'.get? a = some o) → (∃ o, h'.get? e = some o ∧ o.cls = .type "StopIteration") → E (.ref e) { s with heap := h' }) :
    wpAny (model prog w) A (Builtin.«zip.__next__» ⟨[.ref z], []⟩) (fun fin s' => ∃ v, fin = .done (.ret v) ∧ Q v s') E s := by
  obtain ⟨c0, m0⟩ := List.exists_mem_of_ne_nil cs hne
  obtain ⟨_, _, _, n4, n5, n6⟩ := D.ne m0
  show wpAny _ _ (field (.ref z) 2 >>= _) _ _ _
  refine wpAny_bind (wpAny_field hz rfl (x := .bool false) rfl ?_)
  show wpAny _ _ (field (.ref z) 3 >>= _) _ _ _
  refine wpAny_bind (wpAny_field hz rfl (x := .ref TI) rfl (wpAny_bind (wpAny_seqItems hTI rfl ?_)))
  have emp : ((cs.map fun c => Value.ref c.it).toArray.isEmpty) = false := by
    cases cs with
    | nil => exact absurd rfl hne
    | cons c cs => simp
  dsimp only
  rw [emp]
  simp only [Bool.false_eq_true, if_false]
  show wpAny _ _ (Builtin.SmallTypes.ownedTupleIsFree (.ref z) >>= _) _ _ _
  unfold Builtin.SmallTypes.ownedTupleIsFree
  refine wpAny_bind (wpAny_bind (wpAny_field hz rfl (x := .none) rfl (wpAny_pure ?_)))
  simp only [if_true]
  refine wpAny_bind (wpAny_rule (wpAny_bind (wpAny_field hz rfl (x := .ref TO) rfl (wpAny_bind (wpAny_setField_rec hz (by simp) fun h₁ z1 sb1 => ?_)))))
  have up1 : ∀ a o, a ≠ z → s.heap.get? a = some o → h₁.get? a = some o := fun a o x q => same_put sb1 x q
  have d0 : Drawn s.heap z TI TO cs i out 0 h₁ := ⟨z1, up1 _ _ n5 hTI, ⟨b0, up1 _ _ n4 hTO, hb, fun j q => absurd q (Nat.not_lt_zero j)⟩, fun j c _ e => (hc j c e).stay (fun o q => up1 _ o (D.ne (List.mem_of_getElem? e)).1 q) fun o q => up1 _ o (D.ls c (List.mem_of_getElem? e)).1 q,
    fun j c q => absurd q (Nat.not_lt_zero j), fun a o x _ _ q => up1 a o x q, sb1.1⟩
  refine wpAny_bind (forIn_idx (fun k s' => ∃ h', s' = { s with heap := h' } ∧ Drawn s.heap z TI TO cs i out k h' ∧ ∀ j c, j < k → cs[j]? = some c → (c.xs[i]?).isSome = true) _ 0 _ ?_ ⟨h₁, rfl, d0, fun j c q => absurd q (Nat.not_lt_zero j)⟩ ?_)
  · rintro k v s' hk ⟨h', rfl, d, so⟩
    rw [Nat.zero_add] at d so ⊢
    have hk2 : (cs.map fun c => Value.ref c.it)[k]? = some v := by simpa using hk
    rw [List.getElem?_map] at hk2
    obtain ⟨c, hck, rfl⟩ := Option.map_eq_some_iff.mp hk2
    have mc := List.mem_of_getElem? hck
    have cl : c.l ≠ c.it := (D.ls c mc).2.2 c mc
    refine wpAny_bind (wpAny_onRaise ?_)
    show wpAny _ _ (Builtin.SmallTypes.nextOf (.ref c.it) >>= _) _ _ _
    cases hx : c.xs[i]? with
    | none =>
      refine wpAny_bind (next_cE hh (d.old k c (Nat.le_refl _) hck) hx fun h₂ e eb he => ?_)
      obtain ⟨oe, hoe, hce⟩ := he
      obtain ⟨n1, _⟩ := D.ne mc
      have z2 : IsZip h₂ z TI TO .ellipsis := eb _ _ n1.symm d.zip
      have ez : e ≠ z := fun q => by
        subst q
        rw [z2] at hoe
        cases hoe
        simp at hce
      refine wpAny_setField_rec z2 (by simp) fun h₃ _ sb3 => hE ⟨k, c, hck, hx⟩ h₃ e (fun a o x y w q => same_put sb3 x (eb _ _ (w c mc) (d.keep a o x y w q))) ⟨oe, same_put sb3 ez hoe, hce⟩
    | some x =>
      refine wpAny_bind (next_c (d.old k c (Nat.le_refl _) hck) cl hx fun h₂ c2 sb2 => wpAny_pure ?_)
      obtain ⟨b, hbT, hbz, _⟩ := d.to
      have bT2 : IsSeqT h₂ TO b := same_put sb2 (D.ne mc).2.1.symm hbT
      refine wpAny_bind (wpAny_seqItems bT2 rfl (wpAny_bind ?_))
      have szb : b.size ≤ sizeLine := by rw [hbz, sizeLine_eq]; omega
      refine wpAny_updateSeq bT2 rfl ?_ szb (by rw [Array.size_setIfInBounds]; omega)
      refine wpAny_bind (wpAny_letGo (wpAny_pure ⟨rfl, _, rfl, d.step D hck hbT c2 sb2 (Heap.SameBut.update ..) ?_, fun j e hj he => ?_⟩))
      · rw [ho k c x hck hx]
        exact (Heap.get?_update_self (Obj.mapSeq fun y => y.setIfInBounds k x) bT2 rfl).trans (by simp [Obj.mapSeq])
      · by_cases q : j = k
        · subst q
          rw [hck] at he
          cases he
          rw [hx]
          rfl
        · exact so j e (by omega) he
  · rintro s' ⟨h', rfl, d, so⟩
    have len : (cs.map fun c => Value.ref c.it).toArray.toList.length = cs.length := by simp
    rw [Nat.zero_add, len] at d so
    obtain ⟨b, hbT, hbz, hbo⟩ := d.to
    have be : b = ((List.range cs.length).map out).toArray := by
      apply Array.ext_getElem?
      intro j
      by_cases q : j < cs.length
      · rw [hbo j q]
        simp [q]
      · rw [Array.getElem?_eq_none (by omega)]
        simp [q]
    have szb : b.toList.length ≤ sizeLine := by rw [Array.length_toList, hbz, sizeLine_eq]; omega
    refine wpAny_bind (wpAny_seqItems hbT rfl (wpAny_bind (wpAny_newTuple ?_ szb)))
    have zl : z < h'.objs.size := Heap.lt_size d.zip
    show wpAny _ _ (Builtin.SmallTypes.ownedTupleHandOut (.ref z) (.ref h'.objs.size) >>= _) _ _ _
    unfold Builtin.SmallTypes.ownedTupleHandOut
    have z6 : IsZip (h'.push { cls := .type "tuple", data := .seq b.toList.toArray }) z TI TO .ellipsis := Heap.get?_push_of_some _ d.zip
    refine wpAny_bind (wpAny_bind (wpAny_setField_rec z6 (by simp) fun h₇ z7 sb7 => wpAny_setField_rec z7 (by simp) fun h₈ z8 sb8 => ?_))
    have up : ∀ a o, a ≠ z → h'.get? a = some o → h₈.get? a = some o := fun a o x q => same_put sb8 x (same_put sb7 x (Heap.get?_push_of_some _ q))
    have T8 : IsSeqT h₈ h'.objs.size b := by
      have := same_put sb8 (Nat.ne_of_gt zl) (same_put sb7 (Nat.ne_of_gt zl) (Heap.get?_push_size h' (o := { cls := .type "tuple", data := .seq b.toList.toArray }) rfl))
      rw [Array.toArray_toList] at this
      exact this
    have z8' : IsZip h₈ z TI TO (rawInt h'.objs.size) := z8
    rw [d.size] at T8 z8'
    refine wpAny_pure ⟨_, rfl, ?_⟩
    rw [d.size]
    refine hQ (fun j c e => so j c (List.getElem?_eq_some_iff.mp e).1 e) h₈ b z8' (up _ _ n5 d.ti) (up _ _ n4 hbT) hbz (fun j c e => ?_) (by rw [← be]; exact T8) (by rw [sb8.1, sb7.1, Heap.size_push, d.size]) fun a o x y w q => up a o x (d.keep a o x y w q)
    have mc := List.mem_of_getElem? e
    exact (d.new j c (List.getElem?_eq_some_iff.mp e).1 e).stay (fun o q => up _ o (D.ne mc).1 q) fun o q => up _ o (D.ls c mc).1 q
end
end FZ
namespace FZ
open PySem PySem.Spec PyProof.Rows L2
section
variable {prog : Program} {w : World} {A : Around} {E : Value → Shared → Prop} {s : Shared}
theorem py_zip {z TI TO : Addr} {cs : List Cp} {i : Nat} {b0 : Array Value} {out : Nat → Value} {Q : Option Value → Shared → Prop} (hh : A.handled = none) (D : Apart z TI TO cs) (hne : cs ≠ []) (hz : IsZip s.heap z TI TO .none) (hTI : IsSeqT s.heap TI (cs.map fun c => Value.ref c.it).toArray) (hTO : IsSeqT s.heap TO b0) (hb : b0.size = cs.length) (hl : cs.length ≤ 100)
    (hc : ∀ (j : Nat) (c : Cp), cs[j]? = some c → CpAt s.heap i c) (ho : ∀ (j : Nat) (c : Cp) (x : Value), cs[j]? = some c → c.xs[i]? = some x → out j = x)
    (hQ : (∀ (j : Nat) (c : Cp), cs[j]? = some c → (c.xs[i]?).isSome = true) → ∀ h' b, IsZip h' z TI TO (rawInt s.heap.objs.size) → IsSeqT h' TI (cs.map fun c => Value.ref c.it).toArray → IsSeqT h' TO b → b.size = cs.length → (∀ (j : Nat) (c : Cp), cs[j]? = some c → CpAt h' (i + 1) c) → IsSeqT h' s.heap.objs.size ((List.range cs.length).map out).toArray → h'.objs.size = s.heap.objs.size + 1 →
      (∀ a o, a ≠ z → a ≠ TO → (∀ c ∈ cs, a ≠ c.it) → s.heap.get? a = some o → h'.get? a = some o) → Q (some (.ref s.heap.objs.size)) { s with heap := h' })
    (hE : (∃ (j : Nat) (c : Cp), cs[j]? = some c ∧ c.xs[i]? = none) → ∀ h', (∀ a o, a ≠ z → a ≠ TO → (∀ c ∈ cs, a ≠ c.it) → s.heap.get? a = some o → h'.get? a = some o) → Q none { s with heap := h' }) :
    wpAny (model prog w) A (pyNext (.ref z)) Q E s := by
  have hT : s.TypeIs (.ref z) "zip" := ⟨_, hz, rfl⟩
  unfold pyNext
  refine wpAny_bind (wpAny_attempt (wpAny_callSpecial?_slot (name := Str.ofString "__next__") hT F.slot_zip_next (wpAny_call_entry F.slot_zip_next hT F.entry_zip_next (next_zip hh D hne hz hTI hTO hb hl hc ho ?_ ?_) (F.args_zip_next_1 _))))
  · intro so h' b a1 a2 a3 a4 a5 a6 a7 a8
    exact wpAny_pure (hQ so h' b a1 a2 a3 a4 a5 a6 a7 a8)
  · intro so h' e kp he
    obtain ⟨o, h1, h2⟩ := he
    exact wpAny_bind (wpAny_isInstance (T := "StopIteration") (b := true) ⟨o, h1, h2⟩ isSubtype_stop (wpAny_pure (hE so h' kp)))
end
/-- a list or a tuple that stands -/
def SqA (K : PySem.W.Frag) (H : Hp) (t : Bool) (a : Addr) (xs : List V) : Prop := if t = true then SqT K H a xs else SqL K H a xs
theorem SqA.same {K : PySem.W.Frag} {H H' : Hp} {t : Bool} {a : Addr} {xs : List V} (s : L2.Same H H') (h : SqA K H t a xs) : SqA K H' t a xs := by
  unfold SqA at h ⊢
  split at h
  · rename_i q
    rw [if_pos q]
    rcases h with (h | ⟨o, h⟩) | h
    · exact .inl (.inl (s _ _ h))
    · exact .inl (.inr ⟨o, s _ _ h⟩)
    · exact .inr h
  · rename_i q; rw [if_neg q]; exact s.seq h
/-- what is walked: of which kind, its iterator, where it is, its items -/
structure Sq where
  t : Bool
  it : Addr
  l : Addr
  xs : List V
def ItzN (K : PySem.W.Frag) (qs : List Sq) : It :=
  ⟨fun i H => ∀ q ∈ qs, SqA K H q.t q.l q.xs ∧ i < q.xs.length,
   fun i H v H' => ∃ T vs, v = .ref T ∧ H T = none ∧ H' = upd H T (.tup vs) ∧ Paired (fun (x : V) (q : Sq) => q.xs[i]? = some x) vs qs,
   fun i H => (∀ q ∈ qs, SqA K H q.t q.l q.xs) ∧ ∃ q ∈ qs, q.xs.length ≤ i⟩
def ItAt (h : Heap) (i : Nat) (q : Sq) : Prop := if q.t = true then h.IsTupleIter q.it q.l i else h.IsListIter q.it q.l i
theorem ItAt.stay {h h' : Heap} {i : Nat} {q : Sq} (x : ItAt h i q) (k : ∀ o, h.get? q.it = some o → h'.get? q.it = some o) : ItAt h' i q := by
  unfold ItAt at x ⊢
  split at x
  · rename_i c; rw [if_pos c]; exact x.at k
  · rename_i c; rw [if_neg c]; exact x.at k
theorem ItAt.there {h : Heap} {i : Nat} {q : Sq} (x : ItAt h i q) : ∃ o, h.get? q.it = some o ∧ ∀ v, o.data ≠ .cell v := by
  unfold ItAt at x
  split at x
  · obtain ⟨o, a, _, b⟩ := x
    exact ⟨o, a, fun v q => by rw [b] at q; cases q⟩
  · obtain ⟨o, a, _, b⟩ := x
    exact ⟨o, a, fun v q => by rw [b] at q; cases q⟩
abbrev CpOf (i : Nat) (h : Heap) (q : Sq) (c : Cp) : Prop := c.t = q.t ∧ c.it = q.it ∧ c.l = q.l ∧ Vals q.xs c.xs.toList ∧ CpAt h i c
theorem cps_of {X : Cx} {pins : List (Addr × Obj)} {σ : L2.St} {H : Hp} {s : Shared} {i : Nat} (I : Inv X pins σ H s) : ∀ {qs : List Sq}, (∀ q ∈ qs, SqA X.K H q.t q.l q.xs ∧ ItAt s.heap i q) → ∃ cs : List Cp, Paired (CpOf i s.heap) qs cs
  | [], _ => ⟨[], .nil⟩
  | q :: qs, h => by
    obtain ⟨cs, hc⟩ := cps_of I fun p hp => h p (List.mem_cons_of_mem _ hp)
    obtain ⟨h1, h2⟩ := h q List.mem_cons_self
    unfold SqA at h1
    unfold ItAt at h2
    by_cases c : q.t = true
    · rw [if_pos c] at h1 h2
      obtain ⟨its, rv, p, _⟩ := I.tuple h1
      exact ⟨⟨q.t, q.it, q.l, its.toArray⟩ :: cs, .cons ⟨rfl, rfl, rfl, by simpa using rv, by unfold CpAt; rw [if_pos c]; exact ⟨h2, p⟩⟩ hc⟩
    · rw [if_neg c] at h1 h2
      obtain ⟨its, rv, p, _⟩ := I.list h1
      exact ⟨⟨q.t, q.it, q.l, its.toArray⟩ :: cs, .cons ⟨rfl, rfl, rfl, by simpa using rv, by unfold CpAt; rw [if_neg c]; exact ⟨h2, p.isList⟩⟩ hc⟩
theorem its_of {i : Nat} {h : Heap} : ∀ {qs : List Sq} {cs : List Cp}, Paired (CpOf i h) qs cs → cs.map (·.it) = qs.map (·.it)
  | _, _, .nil => rfl
  | _, _, .cons a t => by rw [List.map_cons, List.map_cons, its_of t, a.2.1]
theorem cp_get {i : Nat} {h : Heap} : ∀ {qs : List Sq} {cs : List Cp}, Paired (CpOf i h) qs cs → (∀ (j : Nat) (c : Cp), cs[j]? = some c → ∃ q, qs[j]? = some q ∧ CpOf i h q c) ∧ (∀ (j : Nat) (q : Sq), qs[j]? = some q → ∃ c, cs[j]? = some c ∧ CpOf i h q c)
  | _, _, .nil => ⟨fun j c e => by simp at e, fun j c e => by simp at e⟩
  | _, _, .cons a t => ⟨fun j c e => by
      cases j with
      | zero => simp at e; subst e; exact ⟨_, rfl, a⟩
      | succ j => obtain ⟨q, h1, h2⟩ := (cp_get t).1 j c (by simpa using e); exact ⟨q, by simpa using h1, h2⟩, fun j c e => by
      cases j with
      | zero => simp at e; subst e; exact ⟨_, rfl, a⟩
      | succ j => obtain ⟨q, h1, h2⟩ := (cp_get t).2 j c (by simpa using e); exact ⟨q, by simpa using h1, h2⟩⟩
structure ApartQ (z TI TO : Addr) (qs : List Sq) : Prop where
  nd : (z :: TO :: TI :: qs.map (·.it)).Nodup
  ls : ∀ q ∈ qs, q.l ≠ z ∧ q.l ≠ TO ∧ ∀ d ∈ qs, q.l ≠ d.it
theorem ApartQ.cp {z TI TO : Addr} {qs : List Sq} {cs : List Cp} {i : Nat} {h : Heap} (D : ApartQ z TI TO qs) (p : Paired (CpOf i h) qs cs) : Apart z TI TO cs := by
  refine ⟨by rw [its_of p]; exact D.nd, fun c hc => ?_⟩
  obtain ⟨j, hj⟩ := List.getElem?_of_mem hc
  obtain ⟨q, hq, e1, e2, e3, _⟩ := (cp_get p).1 j c hj
  obtain ⟨l1, l2, l3⟩ := D.ls q (List.mem_of_getElem? hq)
  rw [e3]
  refine ⟨l1, l2, fun d hd => ?_⟩
  obtain ⟨k, hk⟩ := List.getElem?_of_mem hd
  obtain ⟨r, hr, f1, f2, f3, _⟩ := (cp_get p).1 k d hk
  rw [f2]
  exact l3 r (List.mem_of_getElem? hr)
theorem turn_zipN {P : Program} {w : World} {K : PySem.W.Frag} {elts : List Expr} {kk : Nat} {tpos : Pos} {z TI TO : Addr} {qs : List Sq} (D : ApartQ z TI TO qs) (hne : qs ≠ []) (hl : qs.length ≤ 100) :
    Turn P w K (.Tuple elts kk tpos) (ItzN K qs) (z :: TI :: TO :: qs.map (·.it)) z (fun i h => IsZip h z TI TO .none ∧ IsSeqT h TI (qs.map fun q => Value.ref q.it).toArray ∧ (∃ b : Array Value, IsSeqT h TO b ∧ b.size = qs.length) ∧ ∀ q ∈ qs, ItAt h i q) where
  mem := List.mem_cons_self
  obj := fun i h ⟨hz, hTI, ⟨b, hb, _⟩, hi⟩ c hc => by
    rcases List.mem_cons.mp hc with e | hc
    · rw [e]; exact ⟨_, hz, fun v q => nomatch q⟩
    rcases List.mem_cons.mp hc with e | hc
    · rw [e]; exact ⟨_, hTI, fun v q => nomatch q⟩
    rcases List.mem_cons.mp hc with e | hc
    · rw [e]; exact ⟨_, hb, fun v q => nomatch q⟩
    obtain ⟨q, hq, e⟩ := List.mem_map.mp hc
    rw [← e]
    exact (hi q hq).there
  keep := fun i h h' ⟨hz, hTI, ⟨b, hb, hs⟩, hi⟩ k => ⟨k z List.mem_cons_self _ hz, k TI (by simp) _ hTI, ⟨b, k TO (by simp) _ hb, hs⟩, fun q hq => (hi q hq).stay fun o e => k _ (by simp; exact .inr (.inr (.inr ⟨q, hq, rfl⟩))) o e⟩
  item := by
    intro X hP hw hK hc i pins s σ H E I hf ⟨hz, hTI, ⟨b, hb, hs⟩, hi⟩ hg
    subst hP hw hK
    obtain ⟨cs, pr⟩ := cps_of I fun q hq => ⟨(hg q hq).1, hi q hq⟩
    have Dc := D.cp pr
    have ln : cs.length = qs.length := (Paired.length pr).symm
    have im : (cs.map fun c => Value.ref c.it) = qs.map fun q => Value.ref q.it := by
      have := congrArg (List.map Value.ref) (its_of pr)
      rw [List.map_map, List.map_map] at this
      exact this
    obtain ⟨cg1, cg2⟩ := cp_get pr
    have zl : z < s.heap.objs.size := Heap.lt_size hz
    let out : Nat → Value := fun j => ((cs[j]?).bind fun c => c.xs[i]?).getD .none
    have all_ : ∀ (j : Nat) (c : Cp), cs[j]? = some c → ∃ v, c.xs[i]? = some v := fun j c e => by
      obtain ⟨q, hq, _, _, _, rv, _⟩ := cg1 j c e
      have hlt := (hg q (List.mem_of_getElem? hq)).2
      have := rv.length
      exact ⟨c.xs[i]'(by rw [Array.length_toList] at this; omega), Array.getElem?_eq_getElem _⟩
    refine py_zip (out := out) (I.ok.hd hc) Dc (fun e => hne (by rw [e] at ln; exact List.length_eq_zero_iff.mp ln.symm)) hz (by rw [im]; exact hTI) hb (by rw [ln]; exact hs) (by rw [ln]; exact hl) (fun j c e => (cg1 j c e).elim fun q r => r.2.2.2.2.2) (fun j c x e ex => by show ((cs[j]?).bind _).getD _ = _; rw [e]; simp [ex]) ?_ ?_
    · intro so h' b' z' ti' to' bs' cp' T' sz' kp'
      refine ⟨_, rfl, wpAny_letOwnedTupleGo_zip (s := { s with heap := h' }) z' fun h'' z'' sb => ?_⟩
      let vs : List V := qs.map fun q => (q.xs[i]?).getD .non
      have pv : Paired (fun (x : V) (q : Sq) => q.xs[i]? = some x) vs qs := by
        have : ∀ l : List Sq, (∀ q ∈ l, i < q.xs.length) → Paired (fun (x : V) (q : Sq) => q.xs[i]? = some x) (l.map fun q => (q.xs[i]?).getD .non) l := fun l => by
          induction l with
          | nil => intro _; exact .nil
          | cons q l ih =>
            intro h
            exact .cons (by have z := List.getElem?_eq_getElem (h q List.mem_cons_self); show _ = some ((q.xs[i]?).getD .non); rw [z]; rfl) (ih fun p hp => h p (List.mem_cons_of_mem _ hp))
        exact this qs fun q hq => (hg q hq).2
      have rel : Vals vs ((List.range cs.length).map out) := by
        have : ∀ (l : List Sq) (d : List Cp) (f : Nat → Value), Paired (CpOf i s.heap) l d → (∀ q ∈ l, i < q.xs.length) → (∀ (j : Nat) (c : Cp) (x : Value), d[j]? = some c → c.xs[i]? = some x → f j = x) → Vals (l.map fun q => (q.xs[i]?).getD .non) ((List.range d.length).map f) := fun l => by
          induction l with
          | nil => intro d f p _ _; cases p; exact .nil
          | cons q l ih =>
            intro d f p h hf
            cases p with
            | cons a t =>
              rw [List.length_cons, List.range_succ_eq_map, List.map_cons, List.map_cons, List.map_map]
              refine .cons ?_ (ih _ (f ∘ Nat.succ) t (fun p hp => h p (List.mem_cons_of_mem _ hp)) fun j c x e ex => hf (j + 1) c x (by simpa using e) ex)
              obtain ⟨u, hu, ru⟩ := a.2.2.2.1.get (List.getElem?_eq_getElem (h q List.mem_cons_self))
              rw [hf 0 _ u rfl (by simpa using hu), List.getElem?_eq_getElem (h q List.mem_cons_self)]
              exact ru
        exact this qs cs out pr (fun q hq => (hg q hq).2) fun j c x e ex => by show ((cs[j]?).bind _).getD _ = _; rw [e]; simp [ex]
      have T2 : IsSeqT h'' s.heap.objs.size ((List.range cs.length).map out).toArray := (sb.2 _ (Nat.ne_of_gt zl)).trans T'
      have new : ObjOk X.prog X.w (upd H s.heap.objs.size (.tup vs)) h'' s.heap.objs.size (.tup vs) :=
        ⟨by show (qs.map _).length ≤ sizeLine; rw [List.length_map, sizeLine_eq]; omega, _, rel, ⟨_, T2, rfl, _, rfl⟩⟩
      have fpm : ∀ c, c ∉ z :: TI :: TO :: qs.map (·.it) → c ≠ z ∧ c ≠ TO ∧ ∀ e ∈ cs, c ≠ e.it := fun c hn => by
        simp only [List.mem_cons, not_or] at hn
        refine ⟨hn.1, hn.2.2.1, fun e he q => hn.2.2.2 ?_⟩
        rw [← its_of pr, q]
        exact List.mem_map.mpr ⟨e, he, rfl⟩
      have I1 := I.turnedNew (t' := s.toks) (ch := z :: TI :: TO :: qs.map (·.it)) (h' := h'') (fun c o hn e => by
        obtain ⟨n1, n2, n3⟩ := fpm c hn
        exact same_put sb n1 (kp' c o n1 n2 n3 e)) hf (Nat.le_refl _) new
      have nz := List.nodup_cons.mp D.nd
      refine ⟨.ref s.heap.objs.size, _, I1, rfl, ⟨_, vs, rfl, I.hok.fresh (Nat.le_refl _), rfl, pv⟩, ⟨z'', same_put sb (fun q => nz.1 (by rw [← q]; simp)) (by rw [← im]; exact ti'), ⟨b', same_put sb (fun q => nz.1 (by rw [← q]; simp)) to', by rw [bs', ln]⟩, fun q hq => ?_⟩, fun c hcm => ?_⟩
      · obtain ⟨j, hj⟩ := List.getElem?_of_mem hq
        obtain ⟨c, hcj, e1, e2, e3, _⟩ := cg2 j q hj
        have x := cp' j c hcj
        have ne : q.it ≠ z := fun w => nz.1 (by rw [← w]; simp; exact .inr (.inr ⟨q, hq, rfl⟩))
        unfold CpAt at x
        unfold ItAt
        rw [e1] at x
        by_cases ct : q.t = true
        · rw [if_pos ct] at x ⊢
          rw [e2, e3] at x
          exact x.1.at fun o e => same_put sb ne e
        · rw [if_neg ct] at x ⊢
          rw [e2, e3] at x
          exact x.1.at fun o e => same_put sb ne e
      · obtain ⟨o, ho, _⟩ : ∃ o, s.heap.get? c = some o ∧ True := by
          rcases List.mem_cons.mp hcm with e | hcm
          · rw [e]; exact ⟨_, hz, trivial⟩
          rcases List.mem_cons.mp hcm with e | hcm
          · rw [e]; exact ⟨_, hTI, trivial⟩
          rcases List.mem_cons.mp hcm with e | hcm
          · rw [e]; exact ⟨_, hb, trivial⟩
          obtain ⟨q, hq, e⟩ := List.mem_map.mp hcm
          rw [← e]
          obtain ⟨o, ho, _⟩ := (hi q hq).there
          exact ⟨o, ho, trivial⟩
        rw [upd_ne (Nat.ne_of_lt (Heap.lt_size ho))]
        exact (hf c hcm).1
    · rintro ⟨j, c, e, ex⟩
      obtain ⟨v, hv⟩ := all_ j c e
      rw [hv] at ex
      cases ex
  done := by
    intro X hP hw hK hc i pins s σ H E I hf ⟨hz, hTI, ⟨b, hb, hs⟩, hi⟩ ⟨hg, q0, hq0, hend⟩
    subst hP hw hK
    obtain ⟨cs, pr⟩ := cps_of I fun q hq => ⟨hg q hq, hi q hq⟩
    have Dc := D.cp pr
    have ln : cs.length = qs.length := (Paired.length pr).symm
    have im : (cs.map fun c => Value.ref c.it) = qs.map fun q => Value.ref q.it := by
      have := congrArg (List.map Value.ref) (its_of pr)
      rw [List.map_map, List.map_map] at this
      exact this
    obtain ⟨cg1, cg2⟩ := cp_get pr
    let out : Nat → Value := fun j => ((cs[j]?).bind fun c => c.xs[i]?).getD .none
    refine py_zip (out := out) (I.ok.hd hc) Dc (fun e => hne (by rw [e] at ln; exact List.length_eq_zero_iff.mp ln.symm)) hz (by rw [im]; exact hTI) hb (by rw [ln]; exact hs) (by rw [ln]; exact hl) (fun j c e => (cg1 j c e).elim fun q r => r.2.2.2.2.2) (fun j c x e ex => by show ((cs[j]?).bind _).getD _ = _; rw [e]; simp [ex]) ?_ ?_
    · intro so
      exfalso
      obtain ⟨j, hj⟩ := List.getElem?_of_mem hq0
      obtain ⟨c, hcj, _, _, _, rv, _⟩ := cg2 j q0 hj
      have s1 := so j c hcj
      have := rv.length
      rw [Array.length_toList] at this
      rw [Array.getElem?_eq_none (by omega)] at s1
      cases s1
    · intro _ h' kp
      refine ⟨rfl, I.turnedL (t' := s.toks) (ch := z :: TI :: TO :: qs.map (·.it)) (fun c o hn e => ?_) hf⟩
      simp only [List.mem_cons, not_or] at hn
      refine kp c o hn.1 hn.2.2.1 (fun d hd q => hn.2.2.2 ?_) e
      rw [← its_of pr, q]
      exact List.mem_map.mpr ⟨d, hd, rfl⟩
  self := fun A i s Q E st h => wpAny_pyIter_zip st.1 h
/-! ### the call -/
def itOb (q : Sq) : Obj := { cls := .type (if q.t = true then "tuple_iterator" else "list_iterator"), data := .fields #[.ref q.l, .int 0 0] }
section
variable {prog : Program} {w : World} {A : Around} {E : Value → Shared → Prop} {s : Shared}
def StandsAt (h : Heap) (t : Bool) (l : Addr) : Prop := ∃ its, if t = true then h.IsTuple l its else h.IsList l its
theorem StandsAt.push {h : Heap} {t : Bool} {l : Addr} (x : StandsAt h t l) (o : Obj) : StandsAt (h.push o) t l := by
  obtain ⟨its, x⟩ := x
  refine ⟨its, ?_⟩
  split at x
  · rename_i c; rw [if_pos c]; exact x.push o
  · rename_i c; rw [if_neg c]; exact x.push o
theorem iter_any {t : Bool} {l : Addr} {Q : Value → Shared → Prop} (x : StandsAt s.heap t l) (h : Q (.ref s.heap.objs.size) { s with heap := s.heap.push (itOb ⟨t, 0, l, []⟩) }) : wpAny (model prog w) A (pyIter (.ref l)) Q E s := by
  obtain ⟨its, x⟩ := x
  split at x
  · rename_i c
    refine wpAny_pyIter_tuple x ?_
    unfold itOb at h
    rw [if_pos c] at h
    exact h
  · rename_i c
    refine wpAny_pyIter_list x ?_
    unfold itOb at h
    rw [if_neg c] at h
    exact h
theorem zip_call3 (a b c : Value) : checkTypeCall "zip" ⟨[a, b, c], []⟩ = pure () := by kernel_rfl
theorem zip_new3 (a b c : Value) : checkBuiltinCall "zip.__new__" ⟨[.type "zip", a, b, c], []⟩ = pure () := by kernel_rfl
theorem obj_init4 (a b c d : Value) : argsOk "object.__init__" ⟨[a, b, c, d], []⟩ := by
  unfold argsOk
  rw [signature?_of (id := "object.__init__") (n := ['_', '_', 't', 'i', 'n', 'i', '_', '_']) (o := ['t', 'c', 'e', 'j', 'b', 'o']) (by kernel_rfl) F.owner_object]
  kernel_rfl
def zH2 (h : Heap) (t1 t2 : Bool) (l1 l2 : Addr) : Heap := (((((h.push (itOb ⟨t1, 0, l1, []⟩)).push (itOb ⟨t2, 0, l2, []⟩)).push { cls := .type "tuple", data := .seq #[.ref h.objs.size, .ref (h.objs.size + 1)] }).push { cls := .type "tuple", data := .seq #[.none, .none] }).push { cls := .type "zip", data := .fields #[.none, .bool false, .bool false, .ref (h.objs.size + 2), .ref (h.objs.size + 3)] })
def zH3 (h : Heap) (t1 t2 t3 : Bool) (l1 l2 l3 : Addr) : Heap := ((((((h.push (itOb ⟨t1, 0, l1, []⟩)).push (itOb ⟨t2, 0, l2, []⟩)).push (itOb ⟨t3, 0, l3, []⟩)).push { cls := .type "tuple", data := .seq #[.ref h.objs.size, .ref (h.objs.size + 1), .ref (h.objs.size + 2)] }).push { cls := .type "tuple", data := .seq #[.none, .none, .none] }).push { cls := .type "zip", data := .fields #[.none, .bool false, .bool false, .ref (h.objs.size + 3), .ref (h.objs.size + 4)] })
theorem new_zip2 (t1 t2 : Bool) (l1 l2 : Addr) : Meets (Builtin.«zip.__new__» ⟨[.type "zip", .ref l1, .ref l2], []⟩) (fun _ R s => StandsAt s.heap t1 l1 ∧ StandsAt s.heap t2 l2 ∧ R (.ok (.ret (.ref (s.heap.objs.size + 4)))) { s with heap := zH2 s.heap t1 t2 l1 l2 }) :=
  .of_wp fun prog w A R s h => by
    obtain ⟨hp, g, d, tk, os⟩ := s
    obtain ⟨h1, h2, h⟩ := h
    have hsub := sub_zip
    have a1 : StandsAt (Shared.heap ⟨hp, g, d, tk, os⟩) t1 l1 := h1
    have a2 : StandsAt (Shared.heap ⟨hp.push (itOb ⟨t1, 0, l1, []⟩), g, d, tk, os⟩) t2 l2 := h2.push _
    wp_walk using iter_any a1, iter_any a2
    refine ⟨_, rfl, ?_⟩
    simp only [zH2, Heap.size_push] at h ⊢
    exact h
theorem new_zip3 (t1 t2 t3 : Bool) (l1 l2 l3 : Addr) : Meets (Builtin.«zip.__new__» ⟨[.type "zip", .ref l1, .ref l2, .ref l3], []⟩) (fun _ R s => StandsAt s.heap t1 l1 ∧ StandsAt s.heap t2 l2 ∧ StandsAt s.heap t3 l3 ∧ R (.ok (.ret (.ref (s.heap.objs.size + 5)))) { s with heap := zH3 s.heap t1 t2 t3 l1 l2 l3 }) :=
  .of_wp fun prog w A R s h => by
    obtain ⟨hp, g, d, tk, os⟩ := s
    obtain ⟨h1, h2, h3, h⟩ := h
    have hsub := sub_zip
    have a1 : StandsAt (Shared.heap ⟨hp, g, d, tk, os⟩) t1 l1 := h1
    have a2 : StandsAt (Shared.heap ⟨hp.push (itOb ⟨t1, 0, l1, []⟩), g, d, tk, os⟩) t2 l2 := h2.push _
    have a3 : StandsAt (Shared.heap ⟨(hp.push (itOb ⟨t1, 0, l1, []⟩)).push (itOb ⟨t2, 0, l2, []⟩), g, d, tk, os⟩) t3 l3 := (h3.push _).push _
    wp_walk using iter_any a1, iter_any a2, iter_any a3
    refine ⟨_, rfl, ?_⟩
    simp only [zH3, Heap.size_push] at h ⊢
    exact h
end
end FZ

/-! zip as it is walked by a for or a comprehension; attributes as targets. -/
namespace FZ
open PySem PySem.Spec PyProof.Rows L2
def iZ2 (K : PySem.W.Frag) (ta : TA) : TI := fun σ H R => ta σ H fun vs H1 => ∃ (t1 t2 : Bool) (a b : Addr) (xs ys : List V), vs = [.ref a, .ref b] ∧ SqA K H1 t1 a xs ∧ SqA K H1 t2 b ys ∧ ∀ i j, R (ItzN K [⟨t1, i, a, xs⟩, ⟨t2, j, b, ys⟩]) H1
def iZ3 (K : PySem.W.Frag) (ta : TA) : TI := fun σ H R => ta σ H fun vs H1 => ∃ (t1 t2 t3 : Bool) (a b c : Addr) (xs ys zs : List V), vs = [.ref a, .ref b, .ref c] ∧ SqA K H1 t1 a xs ∧ SqA K H1 t2 b ys ∧ SqA K H1 t3 c zs ∧ ∀ i j k, R (ItzN K [⟨t1, i, a, xs⟩, ⟨t2, j, b, ys⟩, ⟨t3, k, c, zs⟩]) H1
theorem stands_of {X : Cx} {pins : List (Addr × Obj)} {σ : L2.St} {H : Hp} {s : Shared} {t : Bool} {a : Addr} {xs : List V} (I : Inv X pins σ H s) (h : SqA X.K H t a xs) : StandsAt s.heap t a ∧ a < s.heap.objs.size := by
  unfold SqA at h
  by_cases c : t = true
  · rw [if_pos c] at h
    obtain ⟨its, rv, p, _⟩ := I.tuple h
    exact ⟨⟨_, by rw [if_pos c]; exact p⟩, p.lt⟩
  · rw [if_neg c] at h
    obtain ⟨its, rv, p, _⟩ := I.list h
    exact ⟨⟨_, by rw [if_neg c]; exact p.isList⟩, p.lt⟩
theorem itOb_at {h : Heap} {q : Sq} (e : h.get? q.it = some (itOb ⟨q.t, 0, q.l, []⟩)) : ItAt h 0 q := by
  unfold itOb at e
  unfold ItAt
  by_cases c : q.t = true
  · rw [if_pos c]
    simp only [c, if_true] at e
    exact ⟨_, e, rfl, rfl⟩
  · rw [if_neg c]
    have c2 : q.t = false := by simpa using c
    simp only [c2, Bool.false_eq_true, if_false] at e
    exact ⟨_, e, rfl, rfl⟩
theorem lt_ne {l n : Addr} (h : l < n) (k : Nat) : l ≠ n + k := Nat.ne_of_lt (Nat.lt_of_lt_of_le h (Nat.le_add_right n k))
theorem lt_ne0 {l n : Addr} (h : l < n) : l ≠ n := Nat.ne_of_lt h
section
variable {X : Cx} {e e2 e3 : Expr} {ta : TA} {p pos tpos : Pos} {elts : List Expr} {kk : Nat}
theorem pi_z2 (hg : Gl X "zip") (hm : X.mg "zip" = none) (ha : PA X [e, e2] ta)
    (hs : starEach [e, e2] X.env = (false, eval e X.env) :: starEach [e2] X.env := by rfl) (hpl : (backTo pos (starEach [e2] X.env)).any (·.1) = false := by rfl) :
    PI X (.Tuple elts kk tpos) (.Call (.Name "zip" p) [e, e2] [] pos) (iZ2 X.K ta) := by
  refine ⟨fun pins s σ H R I h => ?_⟩
  refine Call_ (ld_blt I hg hm PyProof.Rows.boot_zip (PyProof.Rows.callWith_type1 (thn (ha.run pos pins s σ H _ I h) fun us s1 ⟨vs, H1, I1, r1, q1⟩ => ?_) hs hpl))
  obtain ⟨t1, t2, a, b, xs, ys, ex, h1, h2, q⟩ := q1
  subst ex
  obtain ⟨u1, l1⟩ := stands_of I1 h1
  obtain ⟨u2, l2⟩ := stands_of I1 h2
  cases r1 with
  | cons r rr =>
    cases rr with
    | cons r' rr =>
      cases rr
      cases r
      cases r'
      refine callType_new F.called_zip (by decide) (F.typeCall_zip_2 _ _) (F.newCall_zip_2 _ _) (fun obj => F.args_object_init_3 obj _ _) F.entry_zip_new (new_zip2 t1 t2 a b) ⟨u1, u2, ?_⟩
      generalize hn : s1.heap.objs.size = n at l1 l2
      have g5 : (zH2 s1.heap t1 t2 a b).get? (n + 4) = some { cls := .type "zip", data := .fields #[.none, .bool false, .bool false, .ref (n + 2), .ref (n + 3)] } := by
        have := Heap.get?_push_size ((((s1.heap.push (itOb ⟨t1, 0, a, []⟩)).push (itOb ⟨t2, 0, b, []⟩)).push { cls := .type "tuple", data := .seq #[.ref s1.heap.objs.size, .ref (s1.heap.objs.size + 1)] }).push { cls := .type "tuple", data := .seq #[.none, .none] }) (o := { cls := .type "zip", data := .fields #[.none, .bool false, .bool false, .ref (s1.heap.objs.size + 2), .ref (s1.heap.objs.size + 3)] }) rfl
        simp only [Heap.size_push, hn] at this
        unfold zH2
        simp only [hn]
        exact this
      have g4 : (zH2 s1.heap t1 t2 a b).get? (n + 3) = some { cls := .type "tuple", data := .seq #[.none, .none] } := by
        have := Heap.get?_push_size (((s1.heap.push (itOb ⟨t1, 0, a, []⟩)).push (itOb ⟨t2, 0, b, []⟩)).push { cls := .type "tuple", data := .seq #[.ref s1.heap.objs.size, .ref (s1.heap.objs.size + 1)] }) (o := { cls := .type "tuple", data := .seq #[.none, .none] }) rfl
        simp only [Heap.size_push, hn] at this
        unfold zH2
        simp only [hn]
        exact Heap.get?_push_of_some _ this
      have g3 : (zH2 s1.heap t1 t2 a b).get? (n + 2) = some { cls := .type "tuple", data := .seq #[.ref n, .ref (n + 1)] } := by
        have := Heap.get?_push_size ((s1.heap.push (itOb ⟨t1, 0, a, []⟩)).push (itOb ⟨t2, 0, b, []⟩)) (o := { cls := .type "tuple", data := .seq #[.ref s1.heap.objs.size, .ref (s1.heap.objs.size + 1)] }) rfl
        simp only [Heap.size_push, hn] at this
        unfold zH2
        simp only [hn]
        exact Heap.get?_push_of_some _ (Heap.get?_push_of_some _ this)
      have g2 : (zH2 s1.heap t1 t2 a b).get? (n + 1) = some (itOb ⟨t2, 0, b, []⟩) := by
        have := Heap.get?_push_size (s1.heap.push (itOb ⟨t1, 0, a, []⟩)) (o := itOb ⟨t2, 0, b, []⟩) rfl
        simp only [Heap.size_push, hn] at this
        exact Heap.get?_push_of_some _ (Heap.get?_push_of_some _ (Heap.get?_push_of_some _ this))
      have g1 : (zH2 s1.heap t1 t2 a b).get? n = some (itOb ⟨t1, 0, a, []⟩) := by
        have := Heap.get?_push_size s1.heap (o := itOb ⟨t1, 0, a, []⟩) rfl
        rw [hn] at this
        exact Heap.get?_push_of_some _ (Heap.get?_push_of_some _ (Heap.get?_push_of_some _ (Heap.get?_push_of_some _ this)))
      have kp : ∀ c o, s1.heap.get? c = some o → (zH2 s1.heap t1 t2 a b).get? c = some o := fun c o x => Heap.get?_push_of_some _ (Heap.get?_push_of_some _ (Heap.get?_push_of_some _ (Heap.get?_push_of_some _ (Heap.get?_push_of_some _ x))))
      refine ⟨⟨_, g5, rfl⟩, ?_⟩
      refine wpAny_pyIter_zip g5 ?_
      have I2 : Inv X pins σ H1 { s1 with heap := zH2 s1.heap t1 t2 a b } := I1.kept (t' := s1.toks) kp
      refine ⟨n + 4, _, _, _, H1, rfl, I2, turn_zipN (z := n + 4) (TI := n + 2) (TO := n + 3) (qs := [⟨t1, n, a, xs⟩, ⟨t2, n + 1, b, ys⟩]) ⟨by simp, fun q hq => ?_⟩ (by simp) (by simp), ⟨g5, g3, ⟨_, g4, rfl⟩, fun q hq => ?_⟩, fun c hcm => ?_, q n (n + 1)⟩
      · simp only [List.mem_cons, List.not_mem_nil, or_false] at hq ⊢
        rcases hq with rfl | rfl
        · refine ⟨lt_ne l1 4, lt_ne l1 3, fun d hd => ?_⟩
          rcases hd with rfl | rfl
          · exact lt_ne0 l1
          · exact lt_ne l1 1
        · refine ⟨lt_ne l2 4, lt_ne l2 3, fun d hd => ?_⟩
          rcases hd with rfl | rfl
          · exact lt_ne0 l2
          · exact lt_ne l2 1
      · simp only [List.mem_cons, List.not_mem_nil, or_false] at hq
        rcases hq with rfl | rfl
        · exact itOb_at g1
        · exact itOb_at g2
      · have hle : s1.heap.objs.size ≤ c := by
          simp only [List.map_cons, List.map_nil, List.mem_cons, List.not_mem_nil, or_false] at hcm
          rw [hn]
          rcases hcm with e | e | e | e | e <;> rw [e] <;> first | exact Nat.le_add_right _ _ | exact Nat.le_refl _
        exact I1.fpOk hle (I1.hok.fresh hle)
theorem pi_z3 (hg : Gl X "zip") (hm : X.mg "zip" = none) (ha : PA X [e, e2, e3] ta)
    (hs : starEach [e, e2, e3] X.env = (false, eval e X.env) :: starEach [e2, e3] X.env := by rfl) (hpl : (backTo pos (starEach [e2, e3] X.env)).any (·.1) = false := by rfl) :
    PI X (.Tuple elts kk tpos) (.Call (.Name "zip" p) [e, e2, e3] [] pos) (iZ3 X.K ta) := by
  refine ⟨fun pins s σ H R I h => ?_⟩
  refine Call_ (ld_blt I hg hm PyProof.Rows.boot_zip (PyProof.Rows.callWith_type1 (thn (ha.run pos pins s σ H _ I h) fun us s1 ⟨vs, H1, I1, r1, q1⟩ => ?_) hs hpl))
  obtain ⟨t1, t2, t3, a, b, c, xs, ys, zs, ex, h1, h2, h3, q⟩ := q1
  subst ex
  obtain ⟨u1, l1⟩ := stands_of I1 h1
  obtain ⟨u2, l2⟩ := stands_of I1 h2
  obtain ⟨u3, l3⟩ := stands_of I1 h3
  cases r1 with
  | cons r rr =>
  cases rr with
  | cons r' rr =>
  cases rr with
  | cons r'' rr =>
      cases rr
      cases r
      cases r'
      cases r''
      refine callType_new F.called_zip (by decide) (zip_call3 _ _ _) (zip_new3 _ _ _) (fun obj => obj_init4 obj _ _ _) F.entry_zip_new (new_zip3 t1 t2 t3 a b c) ⟨u1, u2, u3, ?_⟩
      generalize hn : s1.heap.objs.size = n at l1 l2 l3
      have g6 : (zH3 s1.heap t1 t2 t3 a b c).get? (n + 5) = some { cls := .type "zip", data := .fields #[.none, .bool false, .bool false, .ref (n + 3), .ref (n + 4)] } := by
        have := Heap.get?_push_size (((((s1.heap.push (itOb ⟨t1, 0, a, []⟩)).push (itOb ⟨t2, 0, b, []⟩)).push (itOb ⟨t3, 0, c, []⟩)).push { cls := .type "tuple", data := .seq #[.ref s1.heap.objs.size, .ref (s1.heap.objs.size + 1), .ref (s1.heap.objs.size + 2)] }).push { cls := .type "tuple", data := .seq #[.none, .none, .none] }) (o := { cls := .type "zip", data := .fields #[.none, .bool false, .bool false, .ref (s1.heap.objs.size + 3), .ref (s1.heap.objs.size + 4)] }) rfl
        simp only [Heap.size_push, hn] at this
        unfold zH3
        simp only [hn]
        exact this
      have g5 : (zH3 s1.heap t1 t2 t3 a b c).get? (n + 4) = some { cls := .type "tuple", data := .seq #[.none, .none, .none] } := by
        have := Heap.get?_push_size ((((s1.heap.push (itOb ⟨t1, 0, a, []⟩)).push (itOb ⟨t2, 0, b, []⟩)).push (itOb ⟨t3, 0, c, []⟩)).push { cls := .type "tuple", data := .seq #[.ref s1.heap.objs.size, .ref (s1.heap.objs.size + 1), .ref (s1.heap.objs.size + 2)] }) (o := { cls := .type "tuple", data := .seq #[.none, .none, .none] }) rfl
        simp only [Heap.size_push, hn] at this
        unfold zH3
        simp only [hn]
        exact Heap.get?_push_of_some _ this
      have g4 : (zH3 s1.heap t1 t2 t3 a b c).get? (n + 3) = some { cls := .type "tuple", data := .seq #[.ref n, .ref (n + 1), .ref (n + 2)] } := by
        have := Heap.get?_push_size (((s1.heap.push (itOb ⟨t1, 0, a, []⟩)).push (itOb ⟨t2, 0, b, []⟩)).push (itOb ⟨t3, 0, c, []⟩)) (o := { cls := .type "tuple", data := .seq #[.ref s1.heap.objs.size, .ref (s1.heap.objs.size + 1), .ref (s1.heap.objs.size + 2)] }) rfl
        simp only [Heap.size_push, hn] at this
        unfold zH3
        simp only [hn]
        exact Heap.get?_push_of_some _ (Heap.get?_push_of_some _ this)
      have g3 : (zH3 s1.heap t1 t2 t3 a b c).get? (n + 2) = some (itOb ⟨t3, 0, c, []⟩) := by
        have := Heap.get?_push_size ((s1.heap.push (itOb ⟨t1, 0, a, []⟩)).push (itOb ⟨t2, 0, b, []⟩)) (o := itOb ⟨t3, 0, c, []⟩) rfl
        simp only [Heap.size_push, hn] at this
        exact Heap.get?_push_of_some _ (Heap.get?_push_of_some _ (Heap.get?_push_of_some _ this))
      have g2 : (zH3 s1.heap t1 t2 t3 a b c).get? (n + 1) = some (itOb ⟨t2, 0, b, []⟩) := by
        have := Heap.get?_push_size (s1.heap.push (itOb ⟨t1, 0, a, []⟩)) (o := itOb ⟨t2, 0, b, []⟩) rfl
        simp only [Heap.size_push, hn] at this
        exact Heap.get?_push_of_some _ (Heap.get?_push_of_some _ (Heap.get?_push_of_some _ (Heap.get?_push_of_some _ this)))
      have g1 : (zH3 s1.heap t1 t2 t3 a b c).get? n = some (itOb ⟨t1, 0, a, []⟩) := by
        have := Heap.get?_push_size s1.heap (o := itOb ⟨t1, 0, a, []⟩) rfl
        rw [hn] at this
        exact Heap.get?_push_of_some _ (Heap.get?_push_of_some _ (Heap.get?_push_of_some _ (Heap.get?_push_of_some _ (Heap.get?_push_of_some _ this))))
      have kp : ∀ d o, s1.heap.get? d = some o → (zH3 s1.heap t1 t2 t3 a b c).get? d = some o := fun d o x => Heap.get?_push_of_some _ (Heap.get?_push_of_some _ (Heap.get?_push_of_some _ (Heap.get?_push_of_some _ (Heap.get?_push_of_some _ (Heap.get?_push_of_some _ x)))))
      refine ⟨⟨_, g6, rfl⟩, ?_⟩
      refine wpAny_pyIter_zip g6 ?_
      have I2 : Inv X pins σ H1 { s1 with heap := zH3 s1.heap t1 t2 t3 a b c } := I1.kept (t' := s1.toks) kp
      refine ⟨n + 5, _, _, _, H1, rfl, I2, turn_zipN (z := n + 5) (TI := n + 3) (TO := n + 4) (qs := [⟨t1, n, a, xs⟩, ⟨t2, n + 1, b, ys⟩, ⟨t3, n + 2, c, zs⟩]) ⟨by simp, fun q hq => ?_⟩ (by simp) (by simp), ⟨g6, g4, ⟨_, g5, rfl⟩, fun q hq => ?_⟩, fun d hcm => ?_, q n (n + 1) (n + 2)⟩
      · simp only [List.mem_cons, List.not_mem_nil, or_false] at hq ⊢
        have any : ∀ l : Addr, l < n → l ≠ n + 5 ∧ l ≠ n + 4 ∧ ∀ d : Sq, (d = ⟨t1, n, a, xs⟩ ∨ d = ⟨t2, n + 1, b, ys⟩ ∨ d = ⟨t3, n + 2, c, zs⟩) → l ≠ d.it := fun l hl => by
          refine ⟨lt_ne hl 5, lt_ne hl 4, fun d hd => ?_⟩
          rcases hd with rfl | rfl | rfl
          · exact lt_ne0 hl
          · exact lt_ne hl 1
          · exact lt_ne hl 2
        rcases hq with rfl | rfl | rfl
        · exact any a l1
        · exact any b l2
        · exact any c l3
      · simp only [List.mem_cons, List.not_mem_nil, or_false] at hq
        rcases hq with rfl | rfl | rfl
        · exact itOb_at g1
        · exact itOb_at g2
        · exact itOb_at g3
      · have hle : s1.heap.objs.size ≤ d := by
          simp only [List.map_cons, List.map_nil, List.mem_cons, List.not_mem_nil, or_false] at hcm
          rw [hn]
          rcases hcm with e | e | e | e | e | e <;> rw [e] <;> first | exact Nat.le_add_right _ _ | exact Nat.le_refl _
        exact I1.fpOk hle (I1.hok.fresh hle)
/-! ### o.f as a target -/
def gFld (K : PySem.W.Frag) (ta : TE) (f : Str) : TG := fun v σ H Q => ta σ H fun x H1 => ∃ a C dx fs, x = .ref a ∧ H1 a = some (.ins C dx fs) ∧ Cls K C ∧ NoAttr K C f ∧ fs.length < 1000 ∧ Q σ (upd H1 a (.ins C dx (putF f v fs)))
theorem pg_fld {o : Expr} {f : Str} {to : TE} (ho : PE X o to) : PG X (.Attribute o f pos) (gFld X.K to f) := by
  refine ⟨fun pins s σ H v u Q I r h => ?_⟩
  rw [assign_Attribute]
  refine wpAny_bind (wpAny_holding (thn (ho.run pins s σ H _ I h) fun ov s1 ⟨x, H1, I1, r1, a, C, dx, fs, ex, ea, c, n, l, q⟩ => ?_))
  subst ex
  obtain rfl : ov = Value.ref a := r1
  refine wpAny_bind (wpAny_standAt (wpAny_bind (wpAny_holding (setattr_ok I1 ea c n l r fun s3 I3 => wpAny_release ⟨σ, _, I3, q⟩))))
end
end FZ

/-! Sets whose members are looked up one after another (whole numbers, texts), made of a list, sorted. -/
namespace FS
open PySem PySem.Spec PyProof.Rows L2 FZ
section
variable {P : Program} {w : World} {κ : Type} [DecidableEq κ] {knd : KeyKind P w κ}
/-- an entry is the key z -/
def Ent1 (knd : KeyKind P w κ) (e : Int × Value) (z : κ) : Prop := knd.is z e.2 = true ∧ e.1 = knd.hash z ∧ e.2.scannable = true
/-- the set at a has the members zs, each once -/
def SetK (knd : KeyKind P w κ) (h : Heap) (a : Addr) (zs : List κ) : Prop :=
  ∃ (o : Obj) (es : Array (Int × Value)) (ep : Nat) (t : SetTable) (ws : List κ), h.get? a = some o ∧ o.ExactSet ∧ o.data = .set es ep t ∧ Paired (Ent1 knd) es.toList ws ∧ ws.Perm zs ∧ zs.Nodup ∧ es.size < scanBound ∧ t.fits es.size = true ∧ Ris t.place.toList ∧ (w.params.followText "set-order" = true ∨ t.led = true)
theorem pair_perm {α β : Type} {F : α → β → Prop} {l l' : List α} (p : l'.Perm l) : ∀ {m : List β}, Paired F l m → ∃ m', m'.Perm m ∧ Paired F l' m' := by
  induction p with
  | nil => intro m h; exact ⟨m, .refl _, h⟩
  | cons x p ih =>
    intro m h
    cases h with
    | cons a t =>
      obtain ⟨m', q, r⟩ := ih t
      exact ⟨_ :: m', q.cons _, .cons a r⟩
  | swap x y l =>
    intro m h
    cases h with
    | cons a t =>
      cases t with
      | cons b t => exact ⟨_ :: _ :: _, .swap _ _ _, .cons b (.cons a t)⟩
  | trans p q ih1 ih2 =>
    intro m h
    obtain ⟨m1, q1, r1⟩ := ih2 h
    obtain ⟨m2, q2, r2⟩ := ih1 r1
    exact ⟨m2, q2.trans q1, r2⟩
theorem elems_of : ∀ {l : List (Int × Value)} {ws : List κ}, Paired (Ent1 knd) l ws → ElemsOf knd l
  | _, _, .nil => fun e he => nomatch he
  | _, _, .cons a t => fun e he => by
    rcases List.mem_cons.mp he with q | q
    · subst q; exact ⟨⟨_, a.1, a.2.1⟩, a.2.2⟩
    · exact elems_of t e q
theorem found_of : ∀ {l : List (Int × Value)} {ws : List κ} (z : κ), Paired (Ent1 knd) l ws → ((l.findIdx? fun e => knd.is z e.2) = none ↔ z ∉ ws)
  | _, _, z, .nil => by simp
  | _, _, z, .cons (a := e) (b := y) a t => by
    have his : knd.is z e.2 = decide (z = y) := KeyKind.is_eq_decide a.1 z
    rw [List.findIdx?_cons, his]
    by_cases c : z = y
    · subst c; simp
    · have ih := found_of z t
      simp only [c, decide_false, List.mem_cons, false_or]
      rw [if_neg Bool.false_ne_true, Option.map_eq_none_iff]
      exact ih
theorem SetK.at {h h' : Heap} {a : Addr} {zs : List κ} (x : SetK knd h a zs) (k : ∀ o, h.get? a = some o → h'.get? a = some o) : SetK knd h' a zs := let ⟨o, es, ep, t, ws, e, r⟩ := x; ⟨o, es, ep, t, ws, k o e, r⟩
/-- the members, one more -/
def more (zs : List κ) (z : κ) : List κ := if z ∈ zs then zs else zs ++ [z]
variable {A : Around} {E : Value → Shared → Prop} {s : Shared} {a : Addr} {zs : List κ}
theorem SetK.add {z : κ} {v : Value} {Q : Bool → Shared → Prop} (R : SetK knd s.heap a zs) (hv : knd.is z v = true) (hsc : v.scannable = true) (room : zs.length + 1 < scanBound)
    (hQ : ∀ h' r, Heap.SameBut a s.heap h' → SetK knd h' a (more zs z) → Q r { s with heap := h' }) : wpAny (model P w) A (setAddHashed a v (knd.hash z)) Q E s := by
  obtain ⟨o, es, ep, t, ws, ho, hex, hd, pr, pm, nd, hb, hf, hr, hl⟩ := R
  have hel := elems_of pr
  unfold setAddHashed setAddHashedIn
  refine wpAny_holding (wpAny_bind (wpAny_setState_of ho hd hf ?_))
  dsimp only
  rw [byScan_of hsc hb hel, if_pos rfl]
  unfold setAddByScan
  refine wpAny_bind (wpAny_bind (wpAny_rule (wpAny_bind (wpAny_setScan_of hv ho hd hf hel ?_))))
  have fo := found_of z pr
  cases hfi : (es.toList.findIdx? fun e => knd.is z e.2) with
  | some j =>
    have mz : z ∈ zs := Classical.byContradiction fun c => by
      have := fo.mpr fun q => c (pm.mem_iff.mp q)
      rw [hfi] at this
      cases this
    exact wpAny_pure (wpAny_pure (hQ s.heap _ (Heap.SameBut.refl a s.heap) ⟨o, es, ep, t, ws, ho, hex, hd, pr, by unfold more; rw [if_pos mz]; exact pm, by unfold more; rw [if_pos mz]; exact nd, hb, hf, hr, hl⟩))
  | none =>
    have mz : z ∉ zs := fun q => fo.mp hfi (pm.mem_iff.mpr q)
    have em : more zs z = zs ++ [z] := if_neg mz
    rw [em] at hQ
    have ndz : (zs ++ [z]).Nodup := List.nodup_append.mpr ⟨nd, List.pairwise_singleton _ _, fun x hx y hy q => mz (by rw [List.mem_singleton.mp hy] at q; rw [← q]; exact hx)⟩
    dsimp only
    have go : ∀ (b : Bool) {s1 : Shared} {Q1 : Unit → Shared → Prop}, Q1 () s1 → wpAny (model P w) A (match b with | true => rule "set.scan.the-table-gave-way" | false => pure ()) Q1 E s1 := fun b s1 Q1 q => by
      cases b
      · exact wpAny_pure q
      · exact wpAny_rule q
    have l1 := layNew_perm t es (knd.hash z) v
    have l2 := layNew_fits t es (knd.hash z) v
    have l3 := layNew_ris t es (knd.hash z) v hr
    have l4 := layNew_led t es (knd.hash z) v
    generalize layNew t es (knd.hash z) v = Z at l1 l2 l3 l4 ⊢
    obtain ⟨es1, t1, dm, gv⟩ := Z
    dsimp only at l1 l2 l3 l4 ⊢
    rw [Array.toList_push] at l1
    have pr1 : Paired (Ent1 knd) (es.toList ++ [(knd.hash z, v)]) (ws ++ [z]) := by
      have : ∀ {l : List (Int × Value)} {m : List κ}, Paired (Ent1 knd) l m → Paired (Ent1 knd) (l ++ [(knd.hash z, v)]) (m ++ [z]) := fun h => by
        induction h with
        | nil => exact .cons ⟨hv, rfl, hsc⟩ .nil
        | cons a _ ih => exact .cons a ih
      exact this pr
    obtain ⟨ws1, pw, pr2⟩ := pair_perm l1 pr1
    have pm1 : ws1.Perm (zs ++ [z]) := pw.trans (pm.append_right [z])
    have sz1 : es1.size = zs.length + 1 := by
      rw [← Array.length_toList, Paired.length pr2, pm1.length_eq, List.length_append]
      rfl
    have hb1 : es1.size < scanBound := by rw [sz1]; exact room
    have led1 : w.params.followText "set-order" = true ∨ t1.led = true := hl.imp id fun q => by rw [l4]; exact q
    refine wpAny_bind (go _ ?_)
    -- the table as it is stored, and what comes behind
    have tail : ∀ (t2 : SetTable), t2.fits es1.size = true → Ris t2.place.toList → (w.params.followText "set-order" = true ∨ t2.led = true) → ∀ (W : Option Bool → Shared → Prop), (∀ h', Heap.SameBut a s.heap h' → SetK knd h' a (zs ++ [z]) → W (some true) { s with heap := h' }) →
        wpAny (model P w) A (do
          storeSet a es1 t2
          if (!dm && t2.tooFull) = true then do
            (match (relayAll t2 es1 (SetTable.grown es1.size)).2.2 with | true => rule "set.scan.the-table-gave-way" | false => pure ())
            storeSet a (relayAll t2 es1 (SetTable.grown es1.size)).1 (relayAll t2 es1 (SetTable.grown es1.size)).2.1
            pure (some true)
          else pure (some true)) W E s := fun t2 f2 r2 d2 W hW => by
      have ho1 := store_at (es' := es1) (t' := t2) ho hd
      refine wpAny_bind (wpAny_storeSet_of ho hd ?_ (fits_of_scanBound hb1))
      split
      · have q1 := relayAll_perm t2 es1 (SetTable.grown es1.size)
        have q2 := relayAll_fits t2 es1 (SetTable.grown es1.size)
        have q3 := relayAll_ris t2 es1 (SetTable.grown es1.size)
        have q4 := relayAll_led t2 es1 (SetTable.grown es1.size)
        generalize relayAll t2 es1 (SetTable.grown es1.size) = Y at q1 q2 q3 q4 ⊢
        obtain ⟨es2, t3, gw⟩ := Y
        dsimp only at q1 q2 q3 q4 ⊢
        have sz2 : es2.size = es1.size := by rw [← Array.length_toList, q1.length_eq, Array.length_toList]
        obtain ⟨ws2, pw2, pr3⟩ := pair_perm q1 pr2
        refine wpAny_bind (go _ (wpAny_bind (wpAny_storeSet_of ho1 rfl ?_ (fits_of_scanBound (by rw [sz2]; exact hb1)))))
        exact wpAny_pure (hW _ ((Heap.SameBut.update s.heap a (Obj.putSet es1 t2)).trans (Heap.SameBut.update _ a _)) ⟨_, es2, _, t3, ws2, store_at (es' := es2) (t' := t3) ho1 rfl, hex, rfl, pr3, pw2.trans pm1, ndz, by rw [sz2]; exact hb1, q2, q3, d2.imp id fun q => by rw [q4]; exact q⟩)
      · exact wpAny_pure (hW _ (Heap.SameBut.update s.heap a (Obj.putSet es1 t2)) ⟨_, es1, _, t2, ws1, ho1, hex, rfl, pr2, pm1, ndz, hb1, f2, r2, d2⟩)
    split
    · refine wpAny_bind ?_
      rw [hashByValue_scannable 8 hsc]
      refine wpAny_pure (tail _ ?_ ?_ ?_ _ fun h' sb r => by dsimp only; exact wpAny_pure (hQ h' _ sb r))
      · split
        · exact l2
        · exact SetTable.fits_plain_off l2
      · split <;> exact l3
      · split <;> exact led1
    · refine wpAny_bind (wpAny_pure ?_)
      simp only [↓reduceIte]
      exact tail t1 l2 l3 led1 _ fun h' sb r => by dsimp only; exact wpAny_pure (hQ h' _ sb r)
/-- the members of a list, each once, as they are met -/
def once (zs ys : List κ) : List κ := ys.foldl more zs
theorem more_mem {zs : List κ} {z x : κ} : x ∈ more zs z ↔ x ∈ zs ∨ x = z := by
  unfold more
  by_cases h : z ∈ zs
  · rw [if_pos h]
    exact ⟨.inl, fun q => q.elim id fun e => e ▸ h⟩
  · rw [if_neg h, List.mem_append, List.mem_singleton]
theorem more_len {zs : List κ} {z : κ} : (more zs z).length ≤ zs.length + 1 := by
  unfold more
  split
  · omega
  · rw [List.length_append]; exact Nat.le_refl _
theorem more_nd {zs : List κ} {z : κ} (n : zs.Nodup) : (more zs z).Nodup := by
  unfold more
  split
  · exact n
  · rename_i h
    exact List.nodup_append.mpr ⟨n, List.pairwise_singleton _ _, fun x hx y hy q => h (by rw [List.mem_singleton.mp hy] at q; rw [← q]; exact hx)⟩
theorem once_mem : ∀ {ys zs : List κ} {x : κ}, x ∈ once zs ys ↔ x ∈ zs ∨ x ∈ ys
  | [], zs, x => ⟨.inl, fun h => h.elim id fun q => nomatch q⟩
  | y :: ys, zs, x => by
    show x ∈ once (more zs y) ys ↔ _
    rw [once_mem, more_mem, List.mem_cons, or_assoc]
theorem once_len : ∀ {ys zs : List κ}, (once zs ys).length ≤ zs.length + ys.length
  | [], zs => Nat.le_refl _
  | y :: ys, zs => by
    have h1 := once_len (ys := ys) (zs := more zs y)
    have h2 := more_len (zs := zs) (z := y)
    show (once (more zs y) ys).length ≤ zs.length + (ys.length + 1)
    omega
theorem once_nd : ∀ {ys zs : List κ}, zs.Nodup → (once zs ys).Nodup
  | [], _, n => n
  | y :: ys, zs, n => once_nd (ys := ys) (more_nd n)
/-- set.update over anything that is walked n times -/
theorem update_loop {R : Result → Shared → Prop} {I : Addr} {fp wr : List Addr} {G : Array GenState → Array GenState → Prop} {n : Nat} {Pv : Nat → Value → Prop} {St : Nat → Shared → Prop} (W : WalksS P w A.in1 I fp wr G n Pv St) (S : Addr) (hS : S ∉ fp)
    (ys : List κ) (hn : ys.length = n) (hv : ∀ i v, Pv i v → ∃ z, ys[i]? = some z ∧ knd.is z v = true ∧ v.scannable = true) (hb : ys.length + 1 < scanBound) : ∀ (k i : Nat) (s : Shared), i + k = n → St i s → SetK knd s.heap S (once [] (ys.take i)) →
      (∀ s', Moved (S :: wr) G s s' → SetK knd s'.heap S (once [] ys) → R (.ok (.ret .none)) s') → codeAny (model P w) A (.builtin "set.update.loop" ⟨[.ref S, .ref I], []⟩) R s
  | 0, i, s, hi, st, hs, hR => by
    have e1 : i = n := by omega
    subst e1
    rw [← hn, List.take_length] at hs
    refine codeAny_builtin F.entry_set_update_loop ?_
    rw [Around.under_plainId F.plain_set_update_loop _]
    show wpAny _ A.in1 (pyNext (.ref I) >>= _) _ _ s
    refine wpAny_bind (W.done s _ _ st fun s' hm => ?_)
    show wpAny _ A.in1 (ret Value.none) _ _ s'
    refine wpAny_pure (hR s' (hm.mono fun b hb => List.mem_cons_of_mem _ hb) (hs.at fun o e => hm.heap S _ (fun q => hS (W.sub _ q)) e))
  | k + 1, i, s, hi, st, hs, hR => by
    refine codeAny_builtin F.entry_set_update_loop ?_
    rw [Around.under_plainId F.plain_set_update_loop _]
    show wpAny _ A.in1 (pyNext (.ref I) >>= _) _ _ s
    refine wpAny_bind (W.item i s _ _ (by omega) st fun v s' hP st' hm => ?_)
    obtain ⟨z, hz, his, hsc⟩ := hv i v hP
    have hs' : SetK knd s'.heap S (once [] (ys.take i)) := hs.at fun o e => hm.heap S _ (fun q => hS (W.sub _ q)) e
    show wpAny _ A.in1 (holding [v] (setAdd S v) >>= _) _ _ s'
    unfold setAdd
    refine wpAny_bind (wpAny_holding (wpAny_holding (wpAny_bind (knd.pyHash his ?_))))
    have hl := once_len (ys := ys.take i) (zs := [])
    have hl2 : (ys.take i).length ≤ ys.length := by rw [List.length_take]; omega
    rw [List.length_nil, Nat.zero_add] at hl
    refine hs'.add (s := { s' with toks := s'.toks + 1 }) his hsc (by omega) fun h' r sb hs2 => ?_
    have e2 : more (once [] (ys.take i)) z = once [] (ys.take (i + 1)) := by
      rw [List.take_add_one, hz]
      unfold once
      rw [List.foldl_append]
      rfl
    rw [e2] at hs2
    refine wpAny_pure ⟨plainId_quiet F.plain_set_update_loop _, update_loop W S hS ys hn hv hb k (i + 1) _ (by omega) (W.frame _ s' _ _ st' (Nat.le_succ _) fun b hb o e => same_put sb (fun q => hS (by rw [← q]; exact hb)) e) hs2 fun s'' hm' hs'' => ?_⟩
    exact hR s'' (Moved.trans W.gtrans ((hm.mono fun b hb => List.mem_cons_of_mem _ hb).then_heap (Nat.le_succ _) fun b o hb e => same_put sb (fun q => hb (by rw [q]; exact List.mem_cons_self)) e) hm') hs''
end
end FS

/-! set(xs) of a list of texts, of any number below four thousand; sorted of it. -/
namespace FS
open PySem PySem.Spec PyProof.Rows L2 FZ
section
variable {P : Program} {w : World} {A : Around} {E : Value → Shared → Prop} {s : Shared}
abbrev setOb (w : World) : Obj := { cls := .type "set", dict := none, data := .set #[] 0 (.fresh 0 0 (!w.params.followText "set-order")) }
theorem set_new1 (a : Value) {Q : Value → Shared → Prop} (h : Q (.ref s.heap.objs.size) { s with heap := s.heap.push (setOb w) }) : codeAny (model P w) A (.call (.builtin "set.__new__") ⟨[.type "set", a], []⟩) (wants Q E) s := by
  refine codeAny_of_tree ?_
  show wpAny _ A.in1 (do checkBuiltinCall "set.__new__" ⟨[.type "set", a], []⟩; again (.builtin "set.__new__" ⟨[.type "set", a], []⟩)) _ _ s
  refine wpAny_bind (wpAny_of_eq (F.newCall_set_1 a) (wpAny_pure ⟨plainId_quiet F.plain_set_new _, codeAny_builtin F.entry_set_new ?_⟩))
  rw [Around.under_plainId F.plain_set_new _]
  have hsub := sub_set_self
  unfold Builtin.«set.__new__» Builtin.Frozenset.newClass
  obtain ⟨hp, g, d, tk, os⟩ := s
  dsimp only
  wp_walk
  refine wpAny_askSetting (wpAny_pure ?_)
  simp only [newObj]
  exact wpAny_bind (wpAny_alloc (wpAny_pure (wpAny_pure h)))
theorem fresh_set {κ : Type} [DecidableEq κ] {knd : PySem.KeyKind P w κ} {h : Heap} {a : Addr} (e : h.get? a = some (setOb w)) : SetK knd h a [] := by
  refine ⟨_, #[], 0, _, [], e, ⟨rfl, rfl, rfl⟩, rfl, .nil, .refl _, List.nodup_nil, by decide, by rfl, List.Pairwise.nil, ?_⟩
  show _ ∨ (!w.params.followText "set-order") = true
  cases w.params.followText "set-order"
  · exact .inr rfl
  · exact .inl rfl
/-- set(xs) -/
theorem call_set {l : Addr} {items : Array Value} {xs : List Str} {Q : Value → Shared → Prop} (hh : A.handled = none) (hl : s.heap.IsList l items) (hi : StrsAre items.toList xs) (hb : xs.length + 1 < scanBound)
    (h : ∀ (h' : Heap) (tk : Nat), SetK (PySem.strKind P w) h' s.heap.objs.size (once [] xs) → (∀ b o, s.heap.get? b = some o → h'.get? b = some o) → Q (.ref s.heap.objs.size) { s with heap := h', toks := tk }) :
    wpAny (model P w) A (call (.type "set") [.ref l]) Q E s := by
  obtain ⟨c, tl, hmro⟩ := F.called_set.mro
  have hmade := F.called_set.made
  have hsub := F.called_set.sub
  have h1 := F.called_set.notType
  have h2 := F.called_set.canCreate
  have hct := F.typeCall_set_1 (.ref l)
  refine wpAny_call (codeAny_of_tree ?_)
  show wpAny _ _ (callAny (.type "set") _) _ _ _
  refine wpAny_pure ⟨Code.quiet_builtin _ (by decide +kernel), codeAny_builtin F.entry_type_call ?_⟩
  rw [Around.under_plain (weight_type_call_type "set" [.ref l] []) rfl]
  repeat (any_goals (first | assumption | wp_step))
  refine codeAny_mono (set_new1 (.ref l) (E := E) (Q := fun obj s1 => obj = .ref s.heap.objs.size ∧ s1 = { s with heap := s.heap.push (setOb w) }) ⟨rfl, rfl⟩) fun r s1 hr => ?_
  cases r with
  | error e => exact hr
  | ok fl =>
    cases fl with
    | next => exact hr.elim
    | brk => exact hr.elim
    | cont => exact hr.elim
    | ret obj =>
      obtain ⟨rfl, rfl⟩ := hr
      have hS : (s.heap.push (setOb w)).get? s.heap.objs.size = some (setOb w) := Heap.get?_push_size _ rfl
      have hT : Shared.TypeIs { s with heap := s.heap.push (setOb w) } (.ref s.heap.objs.size) "set" := ⟨_, hS, rfl⟩
      have hli := F.called_set.init.lookup
      have hbi := F.called_set.init.bind (.ref s.heap.objs.size)
      repeat (any_goals (first | assumption | wp_step))
      refine codeAny_mono (codeAny_call_builtin (R := wants (fun r s2 => r = .none ∧ ∃ h' tk, s2 = { s with heap := h', toks := tk } ∧ SetK (PySem.strKind P w) h' s.heap.objs.size (once [] xs) ∧ (∀ b o, s.heap.get? b = some o → h'.get? b = some o)) E) F.called_set.init.plain F.entry_set_init (check_set_init_1 hT ?_)) fun r2 s2 hr2 => ?_
      · obtain ⟨⟨lc, ld, lt, ls⟩, hol, hcl, nl, hdl⟩ := hl
        simp only at hcl hdl
        subst hcl
        subst hdl
        have hlS : l < s.heap.objs.size := Heap.lt_size hol
        have hol1 : (s.heap.push (setOb w)).get? l = some { cls := .type "list", dict := ld, data := .seq items nl, slots := ls } := Heap.get?_push_of_some _ hol
        have hsls := F.sub_list_set
        have hslf := F.sub_list_frozenset
        have hne : (Value.type "list" == Value.type "dict") = false := by decide
        have hl1 : (s.heap.push (setOb w)).IsList l items := ⟨_, hol1, rfl, nl, rfl⟩
        unfold Builtin.«set.__init__» noKeywords Builtin.Frozenset.updateFrom
        generalize hPI : pyIter = PI
        wp_walk
        subst hPI
        refine wpAny_pyIter_list hl1 (wpAny_bind (wpAny_runValue ?_))
        have sz : (s.heap.push (setOb w)).objs.size = s.heap.objs.size + 1 := Heap.size_push ..
        have n1 : l ≠ (s.heap.push (setOb w)).objs.size := by rw [sz]; exact Nat.ne_of_lt (Nat.lt_succ_of_lt hlS)
        have n2 : s.heap.objs.size ∉ [(s.heap.push (setOb w)).objs.size, l] := by
          rw [sz, List.mem_cons, List.mem_singleton, not_or]
          exact ⟨Nat.ne_of_lt (Nat.lt_succ_self _), Nat.ne_of_gt hlS⟩
        have hv : ∀ (i : Nat) (v : Value), items[i]? = some v → ∃ z, xs[i]? = some z ∧ (PySem.strKind P w).is z v = true ∧ v.scannable = true := fun i v hv => by
          rw [← Array.getElem?_toList] at hv
          have q : ∀ {vs : List Value} {ys : List Str} {i : Nat}, StrsAre vs ys → vs[i]? = some v → ∃ z t, ys[i]? = some z ∧ v = .str z t := fun {vs ys i} h => by
            induction h generalizing i with
            | nil => intro e; simp at e
            | cons y t _ ih =>
              intro e
              cases i with
              | zero => simp at e; exact ⟨y, t, rfl, e.symm⟩
              | succ i => obtain ⟨z, t, h1, h2⟩ := ih (by simpa using e); exact ⟨z, t, by simpa using h1, h2⟩
          obtain ⟨z, t, e1, rfl⟩ := q hi hv
          exact ⟨z, e1, strKind_is P w z t, rfl⟩
        have hlen : xs.length = items.size := by rw [← Array.length_toList]; exact (StrsAre.length hi).symm
        refine update_loop (knd := PySem.strKind P w) ((Walks.list (by simp [hh]) _ l n1 items).toS) s.heap.objs.size n2 xs hlen hv hb items.size 0 _ (by omega) ⟨⟨_, Heap.get?_push_size _ rfl, rfl, rfl⟩, hl1.push _⟩ (fresh_set (Heap.get?_push_of_some _ hS)) fun s' hm hs' => ?_
        obtain ⟨h', g', d', tk', os'⟩ := s'
        obtain rfl : g' = s.gens := hm.gens
        obtain rfl : d' = s.drawn := hm.drawn
        obtain rfl : os' = s.os := hm.os
        refine wpAny_pure ?_
        show wpAny _ _ (ret Value.none) _ _ _
        refine wpAny_pure ⟨rfl, h', tk', rfl, hs', fun b o e => ?_⟩
        have bl := Heap.lt_size e
        refine hm.heap b o ?_ (Heap.get?_push_of_some _ (Heap.get?_push_of_some _ e))
        rw [List.mem_cons, List.mem_singleton, sz, not_or]
        exact ⟨Nat.ne_of_lt bl, Nat.ne_of_lt (Nat.lt_succ_of_lt bl)⟩
      · cases r2 with
        | error e => exact hr2
        | ok fl2 =>
          cases fl2 with
          | next => exact hr2.elim
          | brk => exact hr2.elim
          | cont => exact hr2.elim
          | ret r =>
            obtain ⟨rfl, h', tk, rfl, hs', hk⟩ := hr2
            repeat (any_goals (first | assumption | wp_step))
            exact h _ _ hs' hk
/-- sorted(s) -/
theorem sorted_strset {a : Addr} {zs : List Str} {Q : Value → Shared → Prop} (R : SetK (PySem.strKind P w) s.heap a zs) (hh : A.handled = none) (h64 : zs.length < 64)
    (hQ : ∀ s' p (out : Array Value) (c : Nat) (ys : List Str), (∀ b o, s.heap.get? b = some o → s'.heap.get? b = some o) → s'.gens = s.gens → s'.os = s.os → s.heap.objs.size ≤ p → s'.heap.get? p = some (seqObj "list" out c) → StrsAre out.toList ys → ys.Perm zs → sortedS ys = true → Q (.ref p) s') :
    wpAny (model P w) A (call (.builtin "sorted") [.ref a]) Q E s := by
  obtain ⟨o, es, ep, t, ws, ho, hex, hd, pr, pm, nd, hb, hf, hr, hl⟩ := R
  refine Calls.call_function_entry kind_sorted plain_sorted entry_sorted (args_sorted1 _) ?_
  unfold Builtin.«sorted»
  refine wpAny_bind (m := checkCount "sorted" 1 1 _) (wpAny_pure (wpAny_bind (collect_set (A := A.in1) hh ⟨o, ho, hex.1, hd⟩ hf hb hr hl fun s1 vs k1 hz g1 o1 pv => ?_)))
  have st : StrsAre (es.toList.map (·.2)) ws := by
    have : ∀ {l : List (Int × Value)} {m : List Str}, Paired (Ent1 (PySem.strKind P w)) l m → StrsAre (l.map (·.2)) m := fun h => by
      induction h with
      | nil => exact .nil
      | cons a _ ih =>
        obtain ⟨tk, q⟩ := Value.isStrOf_shape a.1
        rw [List.map_cons, q]
        exact .cons _ _ ih
    exact this pr
  have al : ∀ v, v ∈ vs → ∃ x t, v = Value.str x t := fun v hv => st.all v (pv.mem_iff.mp hv)
  have sv := strsAre_map vs al
  have pz : (vs.map strOf).Perm zs := by
    have q := pv.map strOf
    rw [st.strs] at q
    exact q.trans pm
  have hvl : vs.length = zs.length := by rw [← pz.length_eq, List.length_map]
  refine wpAny_bind (wpAny_newList ?_ (by rw [hvl, sizeLine_eq]; omega))
  have hoL : (s1.heap.push (seqObj "list" vs.toArray 0)).get? s1.heap.objs.size = some (seqObj "list" vs.toArray 0) := Heap.get?_push_size _ rfl
  refine wpAny_bind (wpAny_holding (wpAny_call_entry slot_list_sort ⟨_, hoL, rfl⟩ entry_list_sort (list_sort_treeK strKind_oneLt hoL sv.keysOf (fun v₁ v₂ rest e => keyKind_strs (by rw [← e]; exact sv)) (by rw [hvl]; exact h64) fun st' hp hs => ⟨_, rfl, ?_⟩) (args_list_sort _)))
  obtain ⟨ys, y1, y2, y3⟩ := sorted_out_str sv hp hs
  obtain ⟨c, hc⟩ := sortedHeap_at (vs := vs) (out := (arrOf st').map (·.2)) hoL
  refine wpAny_pure ⟨_, rfl, hQ _ s1.heap.objs.size _ c ys (fun b u e => ?_) g1 o1 hz hc y1 (y2.trans pz) y3⟩
  have q := k1 b u e
  have lt := Heap.lt_size q
  show (sortedHeap (s1.heap.push (seqObj "list" vs.toArray 0)) s1.heap.objs.size vs _).get? b = some u
  rw [sortedHeap_old (Nat.ne_of_lt lt) (by rw [size_push']; exact Nat.lt_succ_of_lt lt)]
  exact Heap.get?_push_of_some _ q
end
/-! ### as rules -/
def SetSO (P : Program) (w : World) (a : Addr) (zs : List Str) : HO := .ext fun h => SetK (PySem.strKind P w) h a zs
section
variable {X : Cx}
theorem setSO_ok {P : Program} {w : World} {H : Hp} {h : Heap} {a : Addr} {zs : List Str} (R : SetK (PySem.strKind P w) h a zs) : ObjOk P w H h a (SetSO P w a zs) :=
  ⟨R, let ⟨o, _, _, _, _, e, _⟩ := R; ⟨o, e⟩, fun h1 h2 p k => SetK.at p k⟩
def rSetS (K : PySem.W.Frag) (P : Program) (w : World) : List V → Hp → VK → Prop := fun vs H Q => ∃ (l : Addr) (xs : List Str), vs = [.ref l] ∧ SqL K H l (xs.map V.str) ∧ xs.length + 1 < scanBound ∧ ∀ p, H p = none → Q (.ref p) (upd H p (SetSO P w p (once [] xs)))
theorem cr_setS (hc : X.calm = true) : CallR X (.type "set") (rSetS X.K X.prog X.w) := by
  intro pins s σ H vs us Q I r h
  obtain ⟨l, xs, rfl, hs, hb, q⟩ := h
  obtain ⟨its, rv, hl, _⟩ := I.list hs
  rw [Vals.ref1 r]
  refine call_set (I.ok.hd hc) hl.isList (by simpa using rv.strs) hb fun h' tk hS hk => ?_
  refine ⟨.ref s.heap.objs.size, _, I.laid (t' := tk) (fun b u e => hk b u e) (Nat.le_refl _) (setSO_ok hS), rfl, q _ (I.hok.fresh (Nat.le_refl _))⟩
def rSortedSS (P : Program) (w : World) : List V → Hp → VK → Prop := fun vs H Q => ∃ (a : Addr) (zs : List Str), vs = [.ref a] ∧ H a = some (SetSO P w a zs) ∧ zs.length < 64 ∧ ∀ (ys : List Str) (p : Addr), ys.Perm zs → sortedS ys = true → H p = none → Q (.ref p) (upd H p (.lst (ys.map V.str)))
theorem cr_sortedSS (hc : X.calm = true) : CallR X (.builtin "sorted") (rSortedSS X.prog X.w) := by
  intro pins s σ H vs us Q I r h
  obtain ⟨a, zs, rfl, ha, h64, q⟩ := h
  have R : SetK (PySem.strKind X.prog X.w) s.heap a zs := (I.hok a _ ha).1
  rw [Vals.ref1 r]
  refine sorted_strset R (I.ok.hd hc) h64 fun s' p out c ys hk hg ho hp he hS pm so => ?_
  have hlen : (ys.map V.str).length ≤ sizeLine := by rw [List.length_map, pm.length_eq]; exact small64 h64
  obtain ⟨h', g', d', tk', os'⟩ := s'
  obtain rfl : g' = s.gens := hg
  obtain rfl : os' = s.os := ho
  have fp : H p = none := I.hok.fresh hp
  have I2 := I.call (ch := []) (h' := h') (g' := s.gens) (d' := d') (t' := tk') (Un.laid hk hp fp) (I.hok.laid hk hp (o := .lst (ys.map V.str)) ⟨hlen, out.toList, c, vals_of_strs hS, he⟩) I.bare (fun _ z => nomatch z)
  exact ⟨.ref p, _, I2, rfl, q ys p pm so fp⟩
end
end FS

/-! repr of data: lists, tuples, dicts at any depth. -/
namespace S1
open PySem PySem.Spec PyProof.Rows L2 StX
def dK0 : Key → PyData
  | .inl i => .int i
  | .inr x => .str x
mutual
/-- the data that stand at a value -/
inductive Dq (K : PySem.W.Frag) (H : Hp) : V → PyData → Prop
  | non : Dq K H .non .none
  | bl (b : Bool) : Dq K H (.bl b) (.bool b)
  | int (i : Int) : Dq K H (.int i) (.int i)
  | str (x : Str) : Dq K H (.str x) (.str x)
  | lst {a : Addr} {xs : List V} {ds : List PyData} : H a = some (.lst xs) → DqA K H xs ds → Dq K H (.ref a) (.list ds)
  | tup {a : Addr} {xs : List V} {ds : List PyData} : SqT K H a xs → DqA K H xs ds → Dq K H (.ref a) (.tuple ds)
  | dct {a : Addr} {kvs : List (Key × V)} {es : List (PyData × PyData)} : H a = some (.dK kvs) → es.map (·.1) = kvs.map (fun q => dK0 q.1) → DqA K H (kvs.map (·.2)) (es.map (·.2)) → Dq K H (.ref a) (.dict es)
inductive DqA (K : PySem.W.Frag) (H : Hp) : List V → List PyData → Prop
  | nil : DqA K H [] []
  | cons {v : V} {vs : List V} {d : PyData} {ds : List PyData} : Dq K H v d → DqA K H vs ds → DqA K H (v :: vs) (d :: ds)
end
mutual
theorem Dq.same {K : PySem.W.Frag} {H H' : Hp} (s : Same H H') : ∀ {v : V} {d : PyData}, Dq K H v d → Dq K H' v d
  | _, _, .non => .non
  | _, _, .bl b => .bl b
  | _, _, .int i => .int i
  | _, _, .str x => .str x
  | _, _, .lst h a => .lst (s _ _ h) (DqA.same s a)
  | _, _, .tup h a => .tup (SqT.ext h s) (DqA.same s a)
  | _, _, .dct h k a => .dct (s _ _ h) k (DqA.same s a)
theorem DqA.same {K : PySem.W.Frag} {H H' : Hp} (s : Same H H') : ∀ {v : List V} {d : List PyData}, DqA K H v d → DqA K H' v d
  | _, _, .nil => .nil
  | _, _, .cons h a => .cons (Dq.same s h) (DqA.same s a)
end
theorem DqA.get {K : PySem.W.Frag} {H : Hp} : ∀ {xs : List V} {ds : List PyData} {i : Nat} {x : V}, DqA K H xs ds → xs[i]? = some x → ∃ d, ds[i]? = some d ∧ Dq K H x d
  | _, _, _, _, .nil, e => by simp at e
  | _, _, 0, _, .cons h _, e => by
    simp at e
    subst e
    exact ⟨_, rfl, h⟩
  | _, _, i + 1, x, .cons _ t, e => by
    obtain ⟨u, h1, h2⟩ := DqA.get (i := i) (x := x) t (by simpa using e)
    exact ⟨u, by simpa using h1, h2⟩
theorem DqA.len {K : PySem.W.Frag} {H : Hp} : ∀ {xs : List V} {ds : List PyData}, DqA K H xs ds → xs.length = ds.length
  | _, _, .nil => rfl
  | _, _, .cons _ t => by rw [List.length_cons, List.length_cons, DqA.len t]
theorem DqA.mem {K : PySem.W.Frag} {H : Hp} : ∀ {xs : List V} {ds : List PyData}, DqA K H xs ds → ∀ x ∈ xs, ∃ d ∈ ds, Dq K H x d
  | _, _, .nil, x, h => nomatch h
  | _, _, .cons h t, x, m => by
    rcases List.mem_cons.mp m with e | m
    · rw [e]
      exact ⟨_, List.mem_cons_self, h⟩
    · obtain ⟨d, md, q⟩ := DqA.mem t x m
      exact ⟨d, List.mem_cons_of_mem _ md, q⟩
theorem DqA.app {K : PySem.W.Frag} {H : Hp} : ∀ {xs ys : List V} {ds es : List PyData}, DqA K H xs ds → DqA K H ys es → DqA K H (xs ++ ys) (ds ++ es)
  | _, _, _, _, .nil, s => s
  | _, _, _, _, .cons h t, s => .cons h (DqA.app t s)
def Rep (P : Program) (w : World) (h : Heap) (u : Value) (d : PyData) : Prop := ∃ as bs, Reads h u d as ∧ ReadAtMost h d.depth bs ∧ ReprK P w bs h d.depth u d.shown
def RepA (P : Program) (w : World) (h : Heap) (us : List Value) (ds : List PyData) : Prop := ∃ as bs, ReadsAll h us ds as ∧ ReadAtMost h (PyData.depthAll ds) bs ∧ ReprAllK P w bs h (PyData.depthAll ds) us (PyData.shownAll ds)
theorem rep_key {P : Program} {w : World} {h : Heap} {k : Key} {v : Value} (e : keyIs k v = true) (s : (dK0 k).showable = true) (z : (dK0 k).shown.length ≤ sizeLine) : Rep P w h v (dK0 k) := by
  rcases keyIs_shape e with ⟨i, t, rfl, rfl⟩ | ⟨x, t, rfl, rfl⟩
  · exact ⟨_, [], .int i t, (fun _ m => nomatch m), by simp only [dK0, PyData.shown]; exact .of_is (ReprIs.int t (by simpa [dK0, PyData.showable] using s)) _ _ _⟩
  · exact ⟨_, [], .str x t, (fun _ m => nomatch m), by simp only [dK0, PyData.shown]; exact .of_is (ReprIs.str x t (by simpa only [dK0, PyData.shown] using z)) _ _ _⟩
theorem repA_cons {P : Program} {w : World} {h : Heap} {u : Value} {us : List Value} {d : PyData} {ds : List PyData} (a : Rep P w h u d) (b : RepA P w h us ds) : RepA P w h (u :: us) (d :: ds) := by
  obtain ⟨a1, b1, r1, m1, k1⟩ := a
  obtain ⟨a2, b2, r2, m2, k2⟩ := b
  have e : PyData.depthAll (d :: ds) = max d.depth (PyData.depthAll ds) := by simp only [PyData.depthAll]
  refine ⟨_, b1 ++ b2, .cons r1 r2, ?_, ?_⟩
  · rw [e]
    exact (m1.mono (Nat.le_max_left _ _)).append (m2.mono (Nat.le_max_right _ _))
  · rw [e]
    simp only [PyData.shownAll]
    exact .cons ((k1.more fun _ => List.mem_append_left _).level_le (Nat.le_max_left _ _)) (k2.more_le (fun _ => List.mem_append_right _) (Nat.le_max_right _ _))
theorem rep_keys {P : Program} {w : World} {h : Heap} : ∀ {es : List DictEntry} {vs : List (Key × Value)}, Pairs (mixKind P w) es vs → PyData.showableAll (vs.map fun q => dK0 q.1) = true → (∀ t ∈ PyData.shownAll (vs.map fun q => dK0 q.1), t.length ≤ sizeLine) → RepA P w h (es.map (·.key)) (vs.map fun q => dK0 q.1)
  | _, _, .nil, _, _ => ⟨_, [], .nil, (fun _ m => nomatch m), by simp only [List.map_nil, PyData.shownAll]; exact .nil⟩
  | _, _, .cons (e := e) (kv := kv) (kvs := kvs) hk _ t, s, z => by
    have s' : (dK0 kv.1).showable = true ∧ PyData.showableAll (kvs.map fun q => dK0 q.1) = true := by simpa [PyData.showableAll] using s
    refine repA_cons (rep_key hk s'.1 (z _ (by simp only [List.map_cons, PyData.shownAll]; exact List.mem_cons_self))) (rep_keys t s'.2 fun t m => z t (by simp only [List.map_cons, PyData.shownAll]; exact List.mem_cons_of_mem _ m))
theorem pairs_vals {P : Program} {w : World} : ∀ {es : List DictEntry} {vs : List (Key × Value)}, Pairs (mixKind P w) es vs → es.map (·.val) = vs.map (·.2)
  | _, _, .nil => rfl
  | _, _, .cons _ e t => by rw [List.map_cons, List.map_cons, e, pairs_vals t]
theorem kv_keys : ∀ {kvs : List (Key × V)} {vs : List (Key × Value)}, KV kvs vs → vs.map (fun q => dK0 q.1) = kvs.map fun q => dK0 q.1
  | [], _, r => by
    unfold KV at r
    cases r
    rfl
  | p :: l, _, r => by
    unfold KV at r
    cases r with
    | cons h t => rw [List.map_cons, List.map_cons, h.1, kv_keys (kvs := l) t]
theorem kv_vals : ∀ {kvs : List (Key × V)} {vs : List (Key × Value)}, KV kvs vs → Vals (kvs.map (·.2)) (vs.map (·.2))
  | [], _, r => by
    unfold KV at r
    cases r
    exact .nil
  | p :: l, _, r => by
    unfold KV at r
    cases r with
    | cons h t => exact .cons h.2 (kv_vals (kvs := l) t)
section
variable {X : Cx} {pins : List (Addr × Obj)} {σ : L2.St} {H : Hp} {s : Shared}
mutual
theorem dq_rep (I : Inv X pins σ H s) : ∀ {v : V} {d : PyData}, Dq X.K H v d → ∀ {u : Value}, RelV v u → d.showable = true → d.shown.length ≤ sizeLine → Rep X.prog X.w s.heap u d
  | _, _, .non, _, r, _, _ => by
    cases r
    exact ⟨_, [], .none, (fun _ m => nomatch m), by simp only [PyData.shown]; exact .of_is ReprIs.none _ _ _⟩
  | _, _, .bl b, _, r, _, _ => by
    cases r
    exact ⟨_, [], .bool b, (fun _ m => nomatch m), by simp only [PyData.shown]; exact .of_is (ReprIs.bool b) _ _ _⟩
  | _, _, .int i, _, r, q, _ => by
    obtain ⟨t, rfl⟩ := r
    exact ⟨_, [], .int i t, (fun _ m => nomatch m), by simp only [PyData.shown]; exact .of_is (ReprIs.int t (by simpa [PyData.showable] using q)) _ _ _⟩
  | _, _, .str x, _, r, _, z => by
    obtain ⟨t, rfl⟩ := r
    exact ⟨_, [], .str x t, (fun _ m => nomatch m), by simp only [PyData.shown]; exact .of_is (ReprIs.str x t (by simpa only [PyData.shown] using z)) _ _ _⟩
  | _, _, .lst (a := a) (ds := ds) hs ha, _, r, q, z => by
    cases r
    obtain ⟨its, rv, ⟨o, n, ho, hc, _, hd⟩, _⟩ := I.list (SqL.of hs)
    have z' : (listText (PyData.shownAll ds)).length ≤ sizeLine := by simpa only [PyData.shown] using z
    obtain ⟨as, bs, ra, mb, kb⟩ := dqA_rep I ha rv (by simpa [PyData.showable] using q) fun t m => Nat.le_trans (listText_mem_le m) z'
    have rd : Reads s.heap (.ref a) (.list ds) _ := .list ho hc hd ra
    have off : a ∉ bs := not_mem_of_deeper rd (by simp only [PyData.depth]; omega) mb
    refine ⟨_, a :: bs, rd, ReadAtMost.cons rd (by simp only [PyData.depth]; omega) mb, ?_⟩
    simp only [PyData.depth, PyData.shown]
    cases its with
    | nil =>
      cases ra
      simp only [PyData.shownAll, listText_nil]
      exact ReprK.listEmpty ho hc hd
    | cons x l => exact ReprK.list ho hc hd off (by simpa using kb.length_eq) fun i y e => kb.item i y (by simpa using e)
  | _, _, .tup (a := a) (ds := ds) hs ha, _, r, q, z => by
    cases r
    obtain ⟨its, rv, ⟨o, ho, hc, n, hd⟩, _⟩ := I.tuple hs
    have z' : (tupleText (PyData.shownAll ds)).length ≤ sizeLine := by simpa only [PyData.shown] using z
    obtain ⟨as, bs, ra, mb, kb⟩ := dqA_rep I ha rv (by simpa [PyData.showable] using q) fun t m => Nat.le_trans (tupleText_mem_le m) z'
    have rd : Reads s.heap (.ref a) (.tuple ds) _ := .tuple ho hc hd ra
    refine ⟨_, a :: bs, rd, ReadAtMost.cons rd (by simp only [PyData.depth]; omega) mb, ?_⟩
    simp only [PyData.depth, PyData.shown]
    exact ReprK.tuple ho hc hd (not_mem_of_deeper rd (by simp only [PyData.depth]; omega) mb) kb
  | _, _, .dct (a := a) (kvs := kvs) (es := es) hd hk hv, _, r, q, z => by
    cases r
    obtain ⟨_, notm, vs, kv, o, ents, ep, ho, ex, dd, _, prs, _⟩ := (show ObjOk X.prog X.w H s.heap a (.dK kvs) from I.hok a _ hd)
    have z' : (dictText (PyData.shownKv es)).length ≤ sizeLine := by simpa only [PyData.shown] using z
    obtain ⟨q1, q2⟩ := PyData.showableKv_split es (by simpa [PyData.showable] using q)
    have ek : vs.map (fun q => dK0 q.1) = es.map (·.1) := by rw [kv_keys kv, hk]
    have R1 : RepA X.prog X.w s.heap (ents.toList.map (·.key)) (es.map (·.1)) := by
      rw [← ek]
      exact rep_keys prs (by rw [ek]; exact q1) fun t m => by
        rw [ek] at m
        obtain ⟨p, mp, lp⟩ := PyData.shownKv_key_le es t m
        exact Nat.le_trans lp (Nat.le_trans (dictText_mem_le mp) z')
    have R2 : RepA X.prog X.w s.heap (ents.toList.map (·.val)) (es.map (·.2)) := by
      rw [pairs_vals prs]
      exact dqA_rep I hv (kv_vals kv) q2 fun t m => by
        obtain ⟨p, mp, lp⟩ := PyData.shownKv_val_le es t m
        exact Nat.le_trans lp (Nat.le_trans (dictText_mem_le mp) z')
    obtain ⟨a1, b1, r1, m1, k1⟩ := R1
    obtain ⟨a2, b2, r2, m2, k2⟩ := R2
    have rd : Reads s.heap (.ref a) (.dict es) _ := .dict ho ex.1 dd r1 r2
    have mb : ReadAtMost s.heap (PyData.depthKv es) (b1 ++ b2) := (m1.mono (PyData.depthAll_keys_le es)).append (m2.mono (PyData.depthAll_vals_le es))
    refine ⟨_, a :: (b1 ++ b2), rd, ReadAtMost.cons rd (by simp only [PyData.depth]; omega) mb, ?_⟩
    simp only [PyData.depth, PyData.shown, PyData.shownKv_eq]
    exact ReprK.dict ho ex.1 dd notm (not_mem_of_deeper rd (by simp only [PyData.depth]; omega) mb) (ReprEntriesK.of_two ents.toList _ _ (k1.more_le (fun _ => List.mem_append_left _) (PyData.depthAll_keys_le es)) (k2.more_le (fun _ => List.mem_append_right _) (PyData.depthAll_vals_le es)))
theorem dqA_rep (I : Inv X pins σ H s) : ∀ {vs : List V} {ds : List PyData}, DqA X.K H vs ds → ∀ {us : List Value}, Vals vs us → PyData.showableAll ds = true → (∀ t ∈ PyData.shownAll ds, t.length ≤ sizeLine) → RepA X.prog X.w s.heap us ds
  | _, _, .nil, _, r, _, _ => by
    cases r
    exact ⟨_, [], .nil, (fun _ m => nomatch m), by simp only [PyData.shownAll]; exact .nil⟩
  | _, _, .cons (d := d) (ds := ds) h1 h2, _, r, q, z => by
    cases r with
    | cons r1 r2 =>
      have q' : d.showable = true ∧ PyData.showableAll ds = true := by simpa [PyData.showableAll] using q
      exact repA_cons (dq_rep I h1 r1 q'.1 (z _ (by simp only [PyData.shownAll]; exact List.mem_cons_self))) (dqA_rep I h2 r2 q'.2 fun t m => z t (by simp only [PyData.shownAll]; exact List.mem_cons_of_mem _ m))
end
/-- repr(x), x a list or a tuple of such data -/
def rReprQ (K : PySem.W.Frag) : List V → Hp → VK → Prop := fun vs H Q => ∃ (a : Addr) (xs : List V) (ds : List PyData) (d : PyData), vs = [.ref a] ∧ DqA K H xs ds ∧ ((H a = some (.lst xs) ∧ d = .list ds) ∨ (SqT K H a xs ∧ d = .tuple ds)) ∧ d.showable = true ∧ d.depth ≤ 60 ∧ d.shown.length ≤ sizeLine ∧ Q (.str d.shown) H
theorem call_reprQ (gd : X.A.guards = some []) (un : X.A.units + 64 < cLine) : CallR X (.builtin "repr") (rReprQ X.K) := by
  intro pins s σ H vs us Q I r h
  obtain ⟨a, xs, ds, d, rfl, ha, hd, sh, dp, z, q⟩ := h
  obtain ⟨u1, rfl, r1⟩ := vals1 r
  obtain rfl : u1 = Value.ref a := r1
  have done : ∀ h' u tk, (∀ b o, s.heap.get? b = some o → h'.get? b = some o) → EP X pins σ Q (.str d.shown u) { s with heap := h', toks := tk } := fun h' u tk k => ⟨.str d.shown, H, I.kept (t' := tk) k, ⟨u, rfl⟩, q⟩
  rcases hd with ⟨hs, rfl⟩ | ⟨hs, rfl⟩
  · skip
    obtain ⟨its, rv, ⟨o, n, ho, hc, _, hdt⟩, _⟩ := I.list (SqL.of hs)
    have z' : (listText (PyData.shownAll ds)).length ≤ sizeLine := by simpa only [PyData.shown] using z
    obtain ⟨as, bs, ra, mb, kb⟩ := dqA_rep I ha rv (by simpa [PyData.showable] using sh) fun t m => Nat.le_trans (listText_mem_le m) z'
    have rd : Reads s.heap (.ref a) (.list ds) _ := .list ho hc hdt ra
    have off : a ∉ bs := not_mem_of_deeper rd (by simp only [PyData.depth]; omega) mb
    simp only [PyData.depth] at dp
    simp only [PyData.shown] at done
    refine call_repr_slot (by omega) ⟨o, ho, hc⟩ F.slot_list_repr.toG ?_
    cases its with
    | nil =>
      cases ra
      simp only [PyData.shownAll, listText_nil] at done
      exact call_list_repr_empty ⟨o, ho, hc⟩ ho hdt ⟨_, _, rfl, done s.heap _ _ fun _ _ e => e⟩
    | cons x l => exact call_list_reprK ho hc hdt off (by simpa using kb.length_eq) (fun i y e => kb.item i y (by simpa using e)) gd (fun b _ => Clear.nil b) (by show X.A.units + 1 + _ < cLine; omega) (fun _ _ e => e) (fun h' u tk k => ⟨_, _, rfl, done h' u tk k⟩) z'
  · skip
    obtain ⟨its, rv, ⟨o, ho, hc, n, hdt⟩, _⟩ := I.tuple hs
    have z' : (tupleText (PyData.shownAll ds)).length ≤ sizeLine := by simpa only [PyData.shown] using z
    obtain ⟨as, bs, ra, mb, kb⟩ := dqA_rep I ha rv (by simpa [PyData.showable] using sh) fun t m => Nat.le_trans (tupleText_mem_le m) z'
    have rd : Reads s.heap (.ref a) (.tuple ds) _ := .tuple ho hc hdt ra
    simp only [PyData.depth] at dp
    simp only [PyData.shown] at done
    refine call_repr_slot (by omega) ⟨o, ho, hc⟩ F.slot_tuple_repr ?_
    exact call_tuple_reprK ho hc hdt (not_mem_of_deeper rd (by simp only [PyData.depth]; omega) mb) kb gd (fun b _ => Clear.nil b) (by show X.A.units + 1 + _ < cLine; omega) (fun _ _ e => e) (fun h' u tk k => ⟨_, _, rfl, done h' u tk k⟩) z'
end
end S1

/-! An own error over ValueError whose __init__ says super().__init__(value); self.value = value. -/
namespace S1
open PySem PySem.W PySem.Calls PyProof.Rows PySem.HandSPX
section
variable {prog : Program} {w : World} {A : Around} {E : Value → Shared → Prop} {h : Heap} {g : Array GenState} {d : Drawn} {t : Nat} {os : OsState}
variable {nm q : Str} {C N : Addr} {bs bm : List Value} {hdct : Bool} {sn : List Str} {sub : List Value} {ab : Bool} {col : Option Bool} {dd : Option Addr} {k0 k1 k2 k3 k5 : Option Value}
/-- ValueError.__init__ bound to the exception at e, called -/
theorem call_veb {u e t0 : Addr} {rest : List Value} {Q : Value → Shared → Prop} (cls : h.get? C = some (excClassObj nm q C N bs bm hdct sn sub ab col dd k0 k1 k2 k3 k5 "ValueError.__new__")) (at_ : h.get? e = some (HandSPX.excO C t0)) (mw : h.get? u = some (kxs_mw "ValueError.__init__" e)) (few : rest.length ≤ sizeLine)
    (fin : ∀ h' t1, (∀ b o, b ≠ e → h.get? b = some o → h'.get? b = some o) → h'.get? e = some (HandSPX.excO C t1) → Q .none ⟨h', g, d, t, os⟩) : wpAny (model prog w) A (call (.ref u) rest) Q E ⟨h, g, d, t, os⟩ := by
  refine wpAny_call (codeAny_of_tree ?_)
  show wpAny _ A.in1 (callAny (.ref u) ⟨rest, []⟩) _ _ _
  simp only [callAny]
  refine wpAny_bind (wpAny_load mw ?_)
  simp only [kxs_mw, show (Value.type "method-wrapper" == Value.type "method" || Value.type "method-wrapper" == Value.type "builtin_function_or_method" || Value.type "method-wrapper" == Value.type "method-wrapper") = true by decide, if_true]
  refine W.KFB.if_so (by decide) ?_
  refine wpAny_bind (check_bound_init F.excBase_ValueError.toExcCallFacts cls at_ rfl ?_)
  refine wpAny_bind (wpAny_pure (wpAny_pure ?_))
  refine ⟨Code.quiet_builtin _ (by decide +kernel), codeAny_builtin F.excBase_ValueError.initEntry ?_⟩
  rw [Around.under_plainId F.excBase_ValueError.init.plain _]
  wp_walk
  refine fin _ h.objs.size (fun b o nb ho => ?_) ?_
  · rw [Heap.get?_update_other _ _ (Ne.symm nb)]; exact Heap.get?_push_of_some _ ho
  · rw [Heap.get?_update_self _ (Heap.get?_push_of_some _ at_) rfl]; rfl
end
/-! ### the text of such an __init__ -/
def sA (p1 p2 : Pos) : Arguments := { posonlyargs := [], args := [{ arg := "self", annotation := none, pos := p1 }, { arg := "value", annotation := none, pos := p2 }], vararg := none, kwonlyargs := [], kw_defaults := [], kwarg := none, defaults := [] }
def sB (q0 q1 q2 q3 q4 q5 q6 q7 q8 q9 : Pos) : List Stmt := [.Expr (.Call (.Attribute (.Call (.Name "super" q0) [] [] q1) "__init__" q2) [.Name "value" q3] [] q4) q5, .Assign [.Attribute (.Name "self" q6) "value" q7] (.Name "value" q8) q9]
def sS : Scope := { kind := .function, names := [(PySem.Str.ofString "self", .local), (PySem.Str.ofString "value", .local), (PySem.Str.ofString "__class__", .free), (PySem.Str.ofString "super", .globalImplicit)], isGenerator := false, isCoroutine := false, more := [] }
/-- super().__init__(value) stands on one row -/
def SupCall (q0 q1 q2 q3 q4 : Pos) : Prop := ∀ env, eval (.Call (.Attribute (.Call (.Name "super" q0) [] [] q1) "__init__" q2) [.Name "value" q3] [] q4) env = (do
  let ov ← attributeBase (.Call (.Name "super" q0) [] [] q1) "__init__" env (eval (.Call (.Name "super" q0) [] [] q1) env)
  standAt q2.atName
  let (f, first) ← holding [ov] (getMethod ov "__init__" (do return (← importBound (.Call (.Name "super" q0) [] [] q1) env).getD true))
  callWith q4 f first (backTo q4 (starEach [.Name "value" q3] env)) [])
example : SupCall ⟨7, 8, 7, 13⟩ ⟨7, 8, 7, 15⟩ ⟨7, 8, 7, 24⟩ ⟨7, 25, 7, 30⟩ ⟨7, 8, 7, 31⟩ := fun env => by rfl
/-- what the written part says of such a class, at C, and of its __init__, at fI -/
structure SupTxt (P : Program) (K : Frag) (C fI : Addr) (qual : Str) : Prop where
  cls : ∃ nm q N bs bm sn sub ab col dd k0 k1 k2 k3 k5, K.lookup C = some (excClassObj nm q C N bs bm true sn sub ab col dd k0 k1 k2 k3 k5 "ValueError.__new__") ∧ refsVE bm = true
  sa : findIn K (.ref C) "__setattr__" = some (some (.builtin "object.__setattr__"))
  ga : findIn K (.ref C) "__getattribute__" = some (some (.builtin "BaseException.__getattribute__"))
  gg : findIn K (.ref C) "__getattr__" = some none
  noV : findIn K (.ref C) "value" = some none
  iC : findIn K (.ref C) "__init__" = some (some (.ref fI))
  tC : typeIn K (.ref fI) = some (.type "function")
  kC : keepIn K (.ref C) = true
  exC : subIn K (.ref C) (.type "BaseException") = some true
  tyC : typeIn K (.ref C) = some (.type "type")
  hdC : hasDictIn K C = true
  su : ks_superIn K C C "__init__" = some (some (.builtin "ValueError.__init__"))
  vE : subIn K (.ref C) (.type "ValueError") = some true
  sf : mroIn K C (.ref C) = some true
  op : nsIn K cStatics "thirdparty.any" = some none
  nS : nsIn K mainGlobals "super" = some none
  top : (P.main.scope.names.lookup ("super" : Str)).isSome = false
  fn : ∃ (oc : Value) (od : Option Addr) (doc pm : Value) (an : Option Addr) (cda cc : Addr) (ct : Value) (osl : Array (Option Value)) (p1 p2 q0 q1 q2 q3 q4 q5 q6 q7 q8 q9 : Pos),
    K.lookup fI = some ⟨oc, od, .func (ksFn "__init__" qual (sA p1 p2) (sB q0 q1 q2 q3 q4 q5 q6 q7 q8 q9) sS .none .none doc pm an (.ref cda) ct cc), osl⟩ ∧ SupCall q0 q1 q2 q3 q4 ∧ codeIn K (.ref cda) qual = true ∧
    (∃ (ccl : Value) (cdd : Option Addr) (vs : Array Value) (ccs : Array (Option Value)) (file : Str) (tf : Tok), K.lookup cda = some ⟨ccl, cdd, .fields vs, ccs⟩ ∧ vs[2]? = some (.str file tf) ∧ ((P.main.file : Str) == file) = true) ∧
    ∃ (cl : Value) (cld : Option Addr) (csl : Array (Option Value)), K.lookup cc = some ⟨cl, cld, .cell (some (.ref C)), csl⟩
abbrev supBinds (x : Addr) (v : Value) : List (Str × Value) := [("self", .ref x), ("value", v)]
/-- what __init__ leaves of a fresh exception at x -/
structure SupEnd (h h' : Heap) (x C dx t1 : Addr) (v : Value) : Prop where
  keep : ∀ b o, b ≠ x → h.get? b = some o → h'.get? b = some o
  obj : h'.get? x = some { cls := .ref C, dict := some dx, data := .fields #[.ref t1, .none, .none, .none, .bool false, .none] }
  dbig : h.objs.size ≤ dx
  dne : dx ≠ x
  ns : h'.Ns1 dx (fun y => if y = "value" then some v else none)
theorem sup_clsIn {K : Frag} {C : Addr} {nm q : Str} {N : Addr} {bs bm : List Value} {sn : List Str} {sub : List Value} {ab : Bool} {col : Option Bool} {dd : Option Addr} {k0 k1 k2 k3 k5 : Option Value} {nid : String} (e : K.lookup C = some (excClassObj nm q C N bs bm true sn sub ab col dd k0 k1 k2 k3 k5 nid)) :
    clsIn K C = some { name := nm, bases := bs, mro := .ref C :: bm, ns := N, qualname := q, hasDict := true, slotNames := sn, subclasses := sub, abstract := ab, collection := col, hasDel := false } := by
  unfold clsIn; rw [e] <;> rfl
section
variable {prog : Program} {w : World} {A : Around} {E : Value → Shared → Prop} {R : Result → Shared → Prop} {s : Shared} {K : Frag} {mg mb : Str → Option Value} {C fI : Addr} {qual : Str}
theorem sup_init (T : SupTxt prog K C fI qual) {x t0 : Addr} {v : Value} (X : K.In s.heap) (hlim : s.heap.NoLimit) (hG : s.heap.Ns mainGlobals mg) (hB : s.heap.Ns builtinsNs mb) (bb : ∀ x : Str, x ≠ "__name__" → mb x = bootBuiltins x) (hx : s.heap.get? x = some (HandSPX.excO C t0)) (hnx : K.lookup x = none) (hroom : A.depth < recursionLimit)
    (hq : ∀ h' tk dx t1, SupEnd s.heap h' x C dx t1 v → R (.ok (.ret .none)) { s with heap := h', toks := tk }) :
    codeAny (model prog w) A (.call (.ref fI) ⟨[.ref x, v], []⟩) R s := by
  obtain ⟨oc, od, doc, pm, an, cda, cc, ct, osl, p1, p2, q0, q1, q2, q3, q4, q5, q6, q7, q8, q9, ho, row, hcd, ⟨ccl, cdd, vs, ccs, file, tf, hco, hvs, hfl⟩, cl, cld, csl, hcc⟩ := T.fn
  obtain ⟨nm, q, N, bs, bm, sn, sub, ab, col, dd, k0, k1, k2, k3, k5, hC, hbm⟩ := T.cls
  have hcl := sup_clsIn hC
  refine ks_codeAny_call_defAt (fd := ksFn "__init__" qual (sA p1 p2) (sB q0 q1 q2 q3 q4 q5 q6 q7 q8 q9) sS .none .none doc pm an (.ref cda) ct cc) (body := sB q0 q1 q2 q3 q4 q5 q6 q7 q8 q9) (binds := [("self", .ref x), ("value", v)]) hroom (X _ _ ho) rfl hlim (codeRec_of X hcd) rfl (BindsTo.of_eq (by first | rfl | with_unfolding_all rfl)) (show ∀ y ∈ sS.names, y.2 ≠ .cell by decide +kernel) (fun y hy => ?_) (fun h₁ hn k => ?_)
  · rcases List.mem_cons.mp hy with rfl | hy
    · rfl
    · rcases List.mem_cons.mp hy with rfl | hy
      · rfl
      · cases hy
  have X₁ : K.In h₁ := X.keeps k
  have hx₁ := k _ _ hx
  have keepNs : ∀ {a : Addr} {m : Str → Option Value}, s.heap.Ns a m → h₁.Ns a m := fun {a m} ⟨o, es, ep, e, r⟩ => ⟨o, es, ep, k _ _ e, r⟩
  show _root_.PySem.wpAt _ (A.deeper (ksEnv qual sS s.heap.objs.size fI (.ref cda) cc)) (.func (sB q0 q1 q2 q3 q4 q5 q6 q7 q8 q9) (ksEnv qual sS s.heap.objs.size fI (.ref cda) cc)) (execs (sB q0 q1 q2 q3 q4 q5 q6 q7 q8 q9) (ksEnv qual sS s.heap.objs.size fI (.ref cda) cc)) _ _ _
  refine ks_wpAt_execs_cons (ks_wpAt_Expr_any (ks_wpAt_MethodCall ?_ (row _)))
  refine ks_wpAt_super_base (f := fI) (cc := cda) (ar := { arg := "self", annotation := none, pos := p1 }) rfl rfl (by decide +kernel) rfl (X₁ _ _ ho) rfl rfl rfl (X₁ _ _ hco) rfl hvs hfl T.top ?_
  refine ks_loadName_global rfl rfl (loadGlobal_builtin (env := ksEnv qual sS s.heap.objs.size fI (.ref cda) cc) (keepNs hG) ?_ (keepNs hB) ((bb _ (by decide +kernel)).trans rfl) ⟨rfl, ?_⟩)
  · exact mg_none_of X₁ (keepNs hG) T.nS
  refine wpAny_loadName_free rfl rfl rfl ⟨_, X₁ _ _ hcc, rfl⟩ ?_
  refine wpAny_loadName_local rfl rfl hn (by first | rfl | with_unfolding_all rfl | kernel_rfl) ?_
  refine ks_wpAny_isType_cls (X₁ _ _ hC) rfl ⟨rfl, ?_⟩
  refine ks_wpAny_call_super (X₁ _ _ hC) rfl hx₁ rfl (fun c e => nomatch e) (looks_mroIn X₁ T.sf) (fun h₂ hso k₂ => ?_)
  have X₂ : K.In h₂ := X₁.keeps fun b o e => k₂ b o e
  have hx₂ := k₂ _ _ hx₁
  have I₂ : InstAt h₂ x (HandSPX.excO C t0) C none := ⟨hx₂, rfl, rfl, trivial⟩
  have su := T.su
  unfold ks_superIn at su
  rw [hcl] at su
  refine kxs_getMethod kxs_ValueError hso (looks_opaque X₂ T.op) (l₀ := .ref C :: bm) (fun A Q E s k q => wpAny_bind ((looks_clsIn X₂ hcl) A _ E s k (wpAny_pure q))) rfl X₂ su (I₂.type.andThen (looks_subIn X₂ T.vE)) (ks_ne X₂ I₂ hcl) (by decide +kernel) ?_
  have nL₂ : h₂.get? h₂.objs.size = none := by
    cases e : h₂.get? h₂.objs.size with
    | none => rfl
    | some o => exact absurd (Heap.lt_size e) (Nat.lt_irrefl _)
  have k₃ : ∀ b o, h₂.get? b = some o → (h₂.push (kxs_mw "ValueError.__init__" x)).get? b = some o := fun b o e => Heap.get?_push_of_some _ e
  have mw : (h₂.push (kxs_mw "ValueError.__init__" x)).get? h₂.objs.size = some (kxs_mw "ValueError.__init__" x) := Heap.get?_push_size _ rfl
  generalize h₂.push (kxs_mw "ValueError.__init__" x) = h₃ at k₃ mw
  have news : News h₂ (h₂.objs.size + 1) h₃ [(h₂.objs.size, kxs_mw "ValueError.__init__" x)] := fun p hp => by
    rcases List.mem_cons.mp hp with rfl | hp
    · exact ⟨mw, Nat.ne_of_lt (Nat.lt_succ_self _), nL₂⟩
    · cases hp
  have hn₃ : h₃.Ns s.heap.objs.size (fun y => (supBinds x v).reverse.lookup y) := by
    obtain ⟨o, es, ep, e, r⟩ := hn
    exact ⟨o, es, ep, k₃ _ _ (k₂ _ _ e), r⟩
  refine kxs_callWith1 (i := "ValueError.__init__") (x := x) news List.mem_cons_self ?_
  refine Calls.spliced_cons ?_
  refine wpAny_Name (wpAny_loadName_local rfl rfl hn₃ (by first | rfl | with_unfolding_all rfl | kernel_rfl) ?_) (by decide)
  refine Calls.spliced_nil ⟨mw, ?_⟩
  refine call_veb (k₃ _ _ (k₂ _ _ (X₁ _ _ hC))) (k₃ _ _ hx₂) mw (by rw [sizeLine_eq]; exact (by decide : 1 ≤ 16777216)) (fun h₄ t1 k₄ hx₄ => ?_)
  have X₄ : K.In h₄ := fun b o e => k₄ b o (fun z => by rw [z, hnx] at e; cases e) (k₃ _ _ (k₂ _ _ (X₁ _ _ e)))
  have xL : s.heap.objs.size ≠ x := Nat.ne_of_gt (Heap.lt_size hx)
  have hn₄ : h₄.Ns s.heap.objs.size (fun y => (supBinds x v).reverse.lookup y) := by
    obtain ⟨o, es, ep, e, r⟩ := hn₃
    exact ⟨o, es, ep, k₄ _ _ xL e, r⟩
  show _root_.PySem.wpAt _ _ _ (execs _ _) _ _ _
  refine ks_wpAt_execs_cons (ks_wpAt_Assign_Attr (wpAt_of_wpAny ?_))
  refine wpAny_Name (wpAny_loadName_local rfl rfl hn₄ (by first | rfl | with_unfolding_all rfl | kernel_rfl) ?_) (by decide)
  refine wpAny_Name (wpAny_loadName_local rfl rfl hn₄ (by first | rfl | with_unfolding_all rfl | kernel_rfl) ?_) (by decide)
  refine set_plain X₄ (ox := HandSPX.excO C t1) (od := none) ⟨hx₄, rfl, rfl, trivial⟩ T.sa ?_
  refine exc_osa X₄ hx₄ hcl (show refsVE (.ref C :: bm) = true from hbm) rfl T.noV (fun h₅ tk₅ dx k₅ dn dne hx₅ hn₅ => ?_)
  have z : s.heap.objs.size < h₄.objs.size := hn₄.lt
  refine wpAt_of_wpAny (wpAny_execs_nil (hq h₅ tk₅ dx t1 ⟨fun b o nb e => k₅ b o nb (k₄ b o nb (k₃ _ _ (k₂ _ _ (k _ _ e)))), hx₅, Nat.le_of_lt (Nat.lt_of_lt_of_le z dn), dne, hn₅⟩))
end
end S1

/-! C(value), C such an error: made, raised. -/
namespace S1
section
open PySem PySem.W PySem.Calls PyProof.Rows PySem.HandSPX
variable {prog : Program} {w : World} {A : Around} {E : Value → Shared → Prop} {R : Result → Shared → Prop} {s : Shared} {K : Frag} {mg mb : Str → Option Value} {C fI : Addr} {qual : Str}
structure SupMade (h h' : Heap) (e C d : Addr) (v : Value) : Prop where
  keep : ∀ b o, h.get? b = some o → h'.get? b = some o
  new : h.objs.size ≤ e
  obj : ∃ oe vs, h'.get? e = some oe ∧ oe.cls = .ref C ∧ oe.dict = some d ∧ oe.data = .fields vs ∧ vs[1]? = some .none
  dbig : h.objs.size ≤ d
  dne : d ≠ e
  ns : h'.Ns1 d (fun y => if y = "value" then some v else none)
theorem sup_made (T : SupTxt prog K C fI qual) {v : Value} (X : K.In s.heap) (hlim : s.heap.NoLimit) (hG : s.heap.Ns mainGlobals mg) (hB : s.heap.Ns builtinsNs mb) (bb : ∀ x : Str, x ≠ "__name__" → mb x = bootBuiltins x) (hroom : A.depth + 1 < recursionLimit)
    (hq : ∀ h' tk e d, SupMade s.heap h' e C d v → R (.ok (.ret (.ref e))) { s with heap := h', toks := tk }) : codeAny (model prog w) A (.call (.ref C) ⟨[v], []⟩) R s := by
  obtain ⟨nm, q, N, bs, bm, sn, sub, ab, col, dd, k0, k1, k2, k3, k5, hC, hbm⟩ := T.cls
  obtain ⟨hp, g, dr, tk, os⟩ := s
  have k : ∀ b o, hp.get? b = some o → ((hp.push (kdv_tup [v])).push (HandSPX.excO C hp.objs.size)).get? b = some o := fun b o e => Heap.get?_push_of_some _ (Heap.get?_push_of_some _ e)
  have at_ : ((hp.push (kdv_tup [v])).push (HandSPX.excO C hp.objs.size)).get? (hp.objs.size + 1) = some (HandSPX.excO C hp.objs.size) := by heap_get
  have up : ∀ {a : Addr} {m : Str → Option Value}, hp.Ns a m → ((hp.push (kdv_tup [v])).push (HandSPX.excO C hp.objs.size)).Ns a m := fun {a m} ⟨o, es, ep, e, r⟩ => ⟨o, es, ep, k _ _ e, r⟩
  have off : K.lookup (hp.objs.size + 1) = none := by
    cases e : K.lookup (hp.objs.size + 1) with
    | none => rfl
    | some o => exact absurd (Nat.lt_of_succ_lt (Heap.lt_size (X _ _ e : hp.get? (hp.objs.size + 1) = some o))) (Nat.lt_irrefl _)
  refine call_own F.excBase_ValueError (fun X => refsVE_contains X bm hbm) (X _ _ hC) (looks_findIn X T.iC) (fun self => bind_fn X self T.tC) (by rw [sizeLine_eq]; exact (by decide : 1 ≤ 16777216)) ?_
  refine sup_init (s := ⟨(hp.push (kdv_tup [v])).push (HandSPX.excO C hp.objs.size), g, dr, tk, os⟩) T (X.keeps k) (hlim.keeps k) (up hG) (up hB) bb at_ off ?_ fun h' tk' dx t1 ⟨k', hx, dn, dne, hns⟩ => ?_
  · show A.depth + 1 < recursionLimit
    exact hroom
  · have old : ∀ b o, hp.get? b = some o → h'.get? b = some o := fun b o e => k' b o (Nat.ne_of_lt (Nat.lt_succ_of_lt (Heap.lt_size e))) (k b o e)
    have z : hp.objs.size + 1 + 1 ≤ dx := by
      first
        | (simpa only [Heap.size_push] using dn)
        | exact dn
        | (have q := dn; rw [Heap.size_push, Heap.size_push] at q; exact q)
    exact ⟨rfl, hq h' tk' (hp.objs.size + 1) dx ⟨old, Nat.le_succ _, ⟨_, _, hx, rfl, rfl, rfl, rfl⟩, Nat.le_trans (Nat.le_trans (Nat.le_succ _) (Nat.le_succ _)) z, dne, hns⟩⟩
end
open PySem PySem.Spec PyProof.Rows L2 StX
theorem relO_val {v : V} {u : Value} (r : RelV v u) (f : Str) : RelO (List.lookup f [(("value" : Str), v)]) (if f = "value" then some u else none) := by
  by_cases e : f = "value"
  · subst e
    rw [if_pos rfl, show List.lookup ("value" : Str) [(("value" : Str), v)] = some v by simp [List.lookup]]
    exact r
  · have q : (f == ("value" : Str)) = false := by simpa using e
    rw [if_neg e, show List.lookup f [(("value" : Str), v)] = none by simp [List.lookup, q]]
    trivial
section
variable {X : Cx} {C fI : Addr} {qual x : Str}
/-- C(e) -/
def tMkSup (C : Addr) (ta : TA) : L2.St → Hp → XK → Prop := fun σ H Q => ta σ H fun vs H1 => ∃ v, vs = [v] ∧ ∀ d, H1 d = none → Q (.ref C) (some d) (upd H1 d (.xd [(("value" : Str), v)]))
theorem pmk_sup {a : Expr} {ta : TA} {p pos : Pos} {k : Nat} (T : SupTxt X.prog X.K C fI qual) (gC : X.mg x = some (.ref C)) (hr : Room k X.A) (ha : PA X [a] ta) (hg : Gl X x := by rfl) (hdb : (x == ("__debug__" : Str)) = false := by decide)
    (he : starEach (a :: []) X.env = (false, eval a X.env) :: starEach [] X.env := by rfl) (hpl : (backTo pos (starEach [] X.env)).any (·.1) = false := by rfl) : PMk X (.Call (.Name x p) [a] [] pos) (tMkSup C ta) := by
  intro pins s σ H Q I h
  refine wpAny_Call_Name_kw (ld_glob I hg gC ?_ hdb)
  refine PySem.W.callWith_K (h₀ := X.base) I.ok.mod.kin T.kC (thn (ha.run pos pins s σ H _ I h) fun us s1 hh => ?_) he hpl
  obtain ⟨vs, H1, I1, r1, v, ev, q1⟩ := hh
  subst ev
  refine ⟨I1.kIn, ?_⟩
  obtain ⟨v', rfl, rv⟩ := vals1 r1
  have lim := I1.nolimit
  have big := I1.bk
  obtain ⟨mb, nb, bb⟩ := I1.ok.mod.blt
  have up : ∀ {b : Addr} {m : Str → Option Value}, X.base.Ns b m → s1.heap.Ns b m := fun {b m} ⟨o, es, ep, e, r⟩ => ⟨o, es, ep, big _ _ e, r⟩
  show wpAny _ _ (call (.ref C) [v']) _ _ _
  have hG := up I1.ok.mod.glob
  have hB := up nb
  clear up big
  obtain ⟨hp, g, dr, tk, os⟩ := s1
  refine wpAny_call (sup_made T I1.kIn lim hG hB bb (by have := hr.dp; omega) fun h' tk' e d M => ?_)
  show MkP X pins σ Q (.ref e) ⟨h', g, dr, tk', os⟩
  obtain ⟨oe, fv, hoe, hc, hd, hdat, h1⟩ := M.obj
  have hns := M.ns
  obtain ⟨G', g1, g2⟩ := restrict h' fun b => decide (b ≠ e)
  have gk : ∀ b, b ≠ e → G'.get? b = h'.get? b := fun b hb => g1 b (decide_eq_true hb)
  have ge : G'.get? e = none := g2 e (by simp)
  have old : ∀ b o, hp.get? b = some o → G'.get? b = some o := fun b o q => (gk b (Nat.ne_of_lt (Nat.lt_of_lt_of_le (Heap.lt_size q) M.new))).trans (M.keep b o q)
  have ob : ObjOk X.prog X.w (upd H1 d (.xd [(("value" : Str), v)])) G' d (.xd [(("value" : Str), v)]) := ⟨_, hns.at (fun o q => (gk d M.dne).trans q), fun f => relO_val rv f⟩
  have J : Inv X pins σ (upd H1 d (.xd [(("value" : Str), v)])) ⟨G', g, dr, tk', os⟩ := I1.laid (t' := tk') old M.dbig ob
  refine ⟨e, oe, fv, ⟨G', g, dr, tk', os⟩, _, .ref C, some d, rfl, J, fun b o q => ?_, ge, hoe, ⟨hc, hd⟩, hdat, h1, ?_, rfl, I1.bare, raises_own T.exC T.tyC, q1 d (I1.hok.fresh M.dbig)⟩
  · by_cases hb : b = e
    · have q' : G'.get? b = some o := q
      rw [hb, ge] at q'
      cases q'
    · exact (gk b hb).symm.trans q
  · rw [upd_ne (Ne.symm M.dne)]
    exact I1.hok.fresh M.new
/-- raise C(e) -/
theorem ps_raiseSup {a : Expr} {ta : TA} {W : WX} {p pos pos2 : Pos} {k : Nat} (hc : X.calm = true) (T : SupTxt X.prog X.K C fI qual) (gC : X.mg x = some (.ref C)) (hr : Room k X.A) (tk : Takes X W) (ha : PA X [a] ta) (hg : Gl X x := by rfl) (hdb : (x == ("__debug__" : Str)) = false := by decide)
    (he : starEach (a :: []) X.env = (false, eval a X.env) :: starEach [] X.env := by rfl) (hpl : (backTo pos (starEach [] X.env)).any (·.1) = false := by rfl) :
    PS X (.Raise (some (.Call (.Name x p) [a] [] pos)) none pos2) (fun _ σ H => tMkSup C ta σ H fun cls d H' => W cls d σ H') := ps_raise hc tk (pmk_sup T gC hr ha hg hdb he hpl)
end
end S1

/-! x in o by o's own __contains__, which tells a bool. -/
namespace S1
open PySem PySem.Spec PyProof.Rows L2 StX
section
variable {X : Cx} {CX : CXT} {k : Nat} {f C : Addr} {fd : FuncData} {ps : List Str} {sp : Sp} {E : XK}
def rOwnIn (C : Addr) (sp : Sp) (E : XK) : R2 := fun y x H Q => ∃ a dx fs, x = .ref a ∧ H a = some (.ins C dx fs) ∧ sp [.ref a, y] H (fun v H' => ∃ b, v = .bl b ∧ Q (.bl b) H') E
theorem op_ownIn (F : FnOk X.prog X.w X.K X.mg X.base CX k f fd ps sp) (hr : Room k X.A) (hb : Binds X.K fd ps []) (hx : Passes CX X E)
    (hs : PySem.W.findIn X.K (.ref C) "__contains__" = some (some (.ref f))) (hf : PySem.W.isFn X.K (.ref f) = true) : OpR X (compareOp .In) (rOwnIn C sp E) := by
  intro pins s σ H y x u v Q I ry rx h
  obtain ⟨a, dx, fs, rfl, ha, hsp⟩ := h
  cases rx
  obtain ⟨mA, J, _⟩ := ins_get I.hok ha
  obtain ⟨od, J, _⟩ := J.look
  obtain ⟨m, hF⟩ := I.fr
  refine PySem.W.in_K hF I.ok.mod.kin J hs hf ?_
  refine thn (run_fn (us := [.ref a, u]) (vs := [.ref a, y]) (ds := []) (dvs := []) F hr hb .nil hx I (.cons rfl (.cons ry .nil)) hsp) fun w s' q => ?_
  obtain ⟨z, H', I', rz, b, ez, q'⟩ := q
  subst ez
  cases rz
  exact wpAny_truthy_bool ⟨.bl b, H', I', rfl, q'⟩
end
/-! ### xs == [] -/
section
variable {X : Cx}
def rEqNil : R2 := fun x y H Q => ∃ l e xs, x = .ref l ∧ y = .ref e ∧ H l = some (.lst xs) ∧ H e = some (.lst []) ∧ Q (.bl xs.isEmpty) H
theorem op_eqNil (hu : X.A.units + 64 < cLine) : OpR X (compareOp .Eq) rEqNil := by
  intro pins s σ H x y v u Q I rx ry h
  obtain ⟨l, e, xs, rfl, rfl, hl, he, q⟩ := h
  cases xs with
  | nil => exact op_eqD hu pins s σ H _ _ v u Q I rx ry ⟨.list [], .list [], .lst (SqL.of hl) .nil, .lst (SqL.of he) .nil, by decide +kernel, by decide +kernel, by simp only [PyData.eqv, PyData.eqvAll]; exact q⟩
  | cons z zs =>
    cases rx
    cases ry
    obtain ⟨its, rv, pl, _⟩ := I.list (SqL.of hl)
    obtain ⟨its2, rv2, pl2, _⟩ := I.list (SqL.of he)
    cases rv2
    cases rv with
    | cons h t =>
      show wpAny (model X.prog X.w) X.A (richCompare .Eq (.ref l) (.ref e)) _ _ _
      exact SeqAt.eq_list_lengthsAt pl.isList pl2.isList (by simp) (by omega) ⟨.bl false, H, I, rfl, q⟩
end
end S1

/-! A layer of our own over the hand layer's readings: what an expression evaluates to, by data; what a statement makes of the names' data and of the things that are written. -/
namespace FL
open PySem PySem.Spec PyProof.Rows L2 StX

/-- what is true of a value in the frozen heap G; of an object that may be written -/
structure Pr where
  p : Hp → V → Prop
  m : ∀ {G G' v}, Same G G' → p G v → p G' v
structure Co where
  p : Hp → HO → Prop
  m : ∀ {G G' o}, Same G G' → p G o → p G' o
abbrev Rs := List (Addr × Co)
abbrev Sls := List (Option Pr)
abbrev dom (r : Rs) : List Addr := r.map (·.1)
structure Ent where
  G : Hp
  H : Hp
  r : Rs
/-- from the entry e: now G is frozen, H the heap, r the things that may be written -/
structure Mv (e : Ent) (G H : Hp) (r : Rs) : Prop where
  gg : Same e.G G
  hh : ∀ a o, e.H a = some o → a ∉ dom e.r → H a = some o
  sub : Same G H
  nw : ∀ a o, G a = some o → e.G a = some o ∨ e.H a = none ∨ a ∈ dom e.r
  rs : ∀ x ∈ r, ∃ o, H x.1 = some o ∧ x.2.p G o ∧ G x.1 = none ∧ (x.1 ∈ dom e.r ∨ e.H x.1 = none)
  nd : (dom r).Nodup
theorem mem_dom {r : Rs} {x : Addr × Co} (h : x ∈ r) : x.1 ∈ dom r := List.mem_map.mpr ⟨x, h, rfl⟩
theorem of_dom {r : Rs} {a : Addr} (h : a ∈ dom r) : ∃ C, (a, C) ∈ r := by
  obtain ⟨x, hx, e⟩ := List.mem_map.mp h
  exact ⟨x.2, by rw [← e]; exact hx⟩
section
variable {e : Ent} {G H G' H' : Hp} {r r' rc rest : Rs}
/-- entered here -/
theorem Mv.self (h : Mv e G H r) : Mv ⟨G, H, r⟩ G H r where
  gg := Same.refl _
  hh := fun _ _ q _ => q
  sub := h.sub
  nw := fun _ _ q => .inl q
  rs := fun x hx => by
    obtain ⟨o, a, b, c, _⟩ := h.rs x hx
    exact ⟨o, a, b, c, .inl (mem_dom hx)⟩
  nd := h.nd
theorem Mv.sub_r (h : Mv e G H r) (hs : ∀ x ∈ r', x ∈ r) (nd : (dom r').Nodup) : Mv e G H r' := ⟨h.gg, h.hh, h.sub, h.nw, fun x hx => h.rs x (hs x hx), nd⟩
theorem Mv.perm (h : Mv e G H r) (p : r.Perm r') : Mv e G H r' := h.sub_r (fun x hx => p.mem_iff.mpr hx) ((p.map (·.1)).nodup_iff.mp h.nd)
/-- a call between: its own things rc of r, the others stay -/
theorem Mv.trans (h : Mv e G H (rc ++ rest)) (k : Mv ⟨G, H, rc⟩ G' H' r') : Mv e G' H' (r' ++ rest) := by
  have nd2 : (dom rc ++ dom rest).Nodup := by
    have := h.nd
    unfold dom at this
    rw [List.map_append] at this
    exact this
  have own : ∀ a, a ∈ dom rc → a ∈ dom e.r ∨ e.H a = none := fun a ha => by
    obtain ⟨C, hc⟩ := of_dom ha
    obtain ⟨_, _, _, _, q⟩ := h.rs _ (List.mem_append_left _ hc)
    exact q
  have fr : ∀ a, H a = none → a ∈ dom e.r ∨ e.H a = none := fun a ha => by
    by_cases hm : a ∈ dom e.r
    · exact .inl hm
    · cases q : e.H a with
      | none => exact .inr rfl
      | some o => rw [h.hh a o q hm] at ha; cases ha
  have keep : ∀ x ∈ rest, ∃ o, H x.1 = some o ∧ H' x.1 = some o ∧ x.2.p G o ∧ G x.1 = none ∧ x.1 ∉ dom rc ∧ (x.1 ∈ dom e.r ∨ e.H x.1 = none) := fun x hx => by
    obtain ⟨o, a, b, c, d⟩ := h.rs x (List.mem_append_right _ hx)
    have nr : x.1 ∉ dom rc := fun z => (List.nodup_append.mp nd2).2.2 _ z _ (mem_dom hx) rfl
    exact ⟨o, a, k.hh _ _ a nr, b, c, nr, d⟩
  refine ⟨h.gg.trans k.gg, fun a o q hn => ?_, k.sub, fun a o q => ?_, fun x hx => ?_, ?_⟩
  · have q1 := h.hh a o q hn
    refine k.hh a o q1 fun z => ?_
    rcases own a z with w | w
    · exact hn w
    · rw [q] at w; cases w
  · rcases k.nw a o q with z | z | z
    · exact h.nw a o z
    · rcases fr a z with w | w
      · exact .inr (.inr w)
      · exact .inr (.inl w)
    · rcases own a z with w | w
      · exact .inr (.inr w)
      · exact .inr (.inl w)
  · rcases List.mem_append.mp hx with hx | hx
    · obtain ⟨o, a, b, c, d⟩ := k.rs x hx
      refine ⟨o, a, b, c, ?_⟩
      rcases d with d | d
      · exact own _ d
      · exact fr _ d
    · obtain ⟨o, a, b, c, d, nr, f⟩ := keep x hx
      refine ⟨o, b, x.2.m k.gg c, ?_, f⟩
      cases q : G' x.1 with
      | none => rfl
      | some u =>
        rcases k.nw _ _ q with z | z | z
        · rw [show G x.1 = some u from z] at d; cases d
        · rw [show H x.1 = none from z] at a; cases a
        · exact absurd z nr
  · show ((r' ++ rest).map (·.1)).Nodup
    rw [List.map_append]
    refine List.nodup_append.mpr ⟨k.nd, (List.nodup_append.mp nd2).2.1, fun a ha b hb z => ?_⟩
    subst z
    obtain ⟨C, hc⟩ := of_dom ha
    obtain ⟨C2, hc2⟩ := of_dom hb
    obtain ⟨o, a1, _, _, _, nr, _⟩ := keep _ hc2
    obtain ⟨_, _, _, _, d⟩ := k.rs _ hc
    rcases d with d | d
    · exact nr d
    · rw [show H a = none from d] at a1; cases a1
/-- a new frozen thing -/
theorem Mv.new {p : Addr} {o : HO} (h : Mv e G H r) (hp : H p = none) : Mv e (upd G p o) (upd H p o) r := by
  have gp : G p = none := h.sub.free hp
  have nr : ∀ x ∈ r, x.1 ≠ p := fun x hx z => by
    obtain ⟨u, a, _⟩ := h.rs x hx
    rw [z, hp] at a; cases a
  have fr : e.H p = none ∨ p ∈ dom e.r := by
    by_cases hm : p ∈ dom e.r
    · exact .inr hm
    · cases q : e.H p with
      | none => exact .inl rfl
      | some o => rw [h.hh p o q hm] at hp; cases hp
  refine ⟨fun a u q => ?_, fun a u q hn => ?_, fun a u q => ?_, fun a u q => ?_, fun x hx => ?_, h.nd⟩
  · have := h.gg a u q
    rw [upd_ne (ne_of_none this gp)]; exact this
  · have := h.hh a u q hn
    rw [upd_ne (ne_of_none this hp)]; exact this
  · by_cases ha : a = p
    · subst ha; rw [upd_same] at q ⊢; exact q
    · rw [upd_ne ha] at q ⊢; exact h.sub a u q
  · by_cases ha : a = p
    · subst ha; exact .inr fr
    · rw [upd_ne ha] at q; exact h.nw a u q
  · obtain ⟨u, a, b, c, d⟩ := h.rs x hx
    exact ⟨u, by rw [upd_ne (nr x hx)]; exact a, x.2.m (fun a u q => by rw [upd_ne (ne_of_none q gp)]; exact q) b, by rw [upd_ne (nr x hx)]; exact c, d⟩
theorem same_new {G : Hp} {p : Addr} {o : HO} (h : G p = none) : Same G (upd G p o) := fun a u q => by rw [upd_ne (ne_of_none q h)]; exact q
/-- a new thing to be written -/
theorem Mv.own {p : Addr} {o : HO} {C : Co} (h : Mv e G H r) (hp : H p = none) (hc : C.p G o) : Mv e G (upd H p o) ((p, C) :: r) := by
  have gp : G p = none := h.sub.free hp
  have nr : ∀ x ∈ r, x.1 ≠ p := fun x hx z => by
    obtain ⟨u, a, _⟩ := h.rs x hx
    rw [z, hp] at a; cases a
  have fr : p ∈ dom e.r ∨ e.H p = none := by
    by_cases hm : p ∈ dom e.r
    · exact .inl hm
    · cases q : e.H p with
      | none => exact .inr rfl
      | some o => rw [h.hh p o q hm] at hp; cases hp
  refine ⟨h.gg, fun a u q hn => ?_, fun a u q => ?_, h.nw, fun x hx => ?_, ?_⟩
  · have := h.hh a u q hn
    rw [upd_ne (ne_of_none this hp)]; exact this
  · rw [upd_ne (ne_of_none q gp)]; exact h.sub a u q
  · rcases List.mem_cons.mp hx with z | hx
    · subst z; exact ⟨o, upd_same, hc, gp, fr⟩
    · obtain ⟨u, a, b, c, d⟩ := h.rs x hx
      exact ⟨u, by rw [upd_ne (nr x hx)]; exact a, b, c, d⟩
  · refine List.nodup_cons.mpr ⟨fun z => ?_, h.nd⟩
    obtain ⟨C2, hc2⟩ := of_dom z
    exact nr _ hc2 rfl
/-- the first thing is written -/
theorem Mv.put {p : Addr} {o : HO} {C C' : Co} (h : Mv e G H ((p, C) :: r)) (hc : C'.p G o) : Mv e G (upd H p o) ((p, C') :: r) := by
  have nd := List.nodup_cons.mp h.nd
  obtain ⟨o0, a0, b0, c0, d0⟩ := h.rs _ List.mem_cons_self
  have nr : ∀ x ∈ r, x.1 ≠ p := fun x hx z => nd.1 (by have q := mem_dom hx; rw [z] at q; exact q)
  refine ⟨h.gg, fun a u q hn => ?_, fun a u q => ?_, h.nw, fun x hx => ?_, h.nd⟩
  · have ne : a ≠ p := fun z => by
      subst z
      rcases d0 with d | d
      · exact hn d
      · rw [q] at d; cases d
    rw [upd_ne ne]; exact h.hh a u q hn
  · rw [upd_ne (ne_of_none q c0)]; exact h.sub a u q
  · rcases List.mem_cons.mp hx with z | hx
    · subst z; exact ⟨o, upd_same, hc, c0, d0⟩
    · obtain ⟨u, a, b, c, d⟩ := h.rs x (List.mem_cons_of_mem _ hx)
      exact ⟨u, by rw [upd_ne (nr x hx)]; exact a, b, c, d⟩
/-- the first thing is frozen as it stands -/
theorem Mv.freeze {p : Addr} {C : Co} (h : Mv e G H ((p, C) :: r)) : ∃ o, H p = some o ∧ C.p G o ∧ G p = none ∧ Mv e (upd G p o) H r := by
  have nd := List.nodup_cons.mp h.nd
  obtain ⟨o, a0, b0, c0, d0⟩ := h.rs _ List.mem_cons_self
  have nr : ∀ x ∈ r, x.1 ≠ p := fun x hx z => nd.1 (by have q := mem_dom hx; rw [z] at q; exact q)
  refine ⟨o, a0, b0, c0, fun a u q => ?_, h.hh, fun a u q => ?_, fun a u q => ?_, fun x hx => ?_, nd.2⟩
  · have := h.gg a u q
    rw [upd_ne (ne_of_none this c0)]; exact this
  · by_cases ha : a = p
    · subst ha; rw [upd_same] at q; rw [← q]; exact a0
    · rw [upd_ne ha] at q; exact h.sub a u q
  · by_cases ha : a = p
    · subst ha
      rcases d0 with d | d
      · exact .inr (.inr d)
      · exact .inr (.inl d)
    · rw [upd_ne ha] at q; exact h.nw a u q
  · obtain ⟨u, a, b, c, d⟩ := h.rs x (List.mem_cons_of_mem _ hx)
    exact ⟨u, a, x.2.m (same_new c0) b, by rw [upd_ne (nr x hx)]; exact c, d⟩
end
/-- the names' data -/
structure SlOk (G : Hp) (σ : L2.St) (s : Sls) : Prop where
  len : σ.length = s.length
  at_ : ∀ (i : Nat) (P : Pr), s[i]? = some (some P) → ∃ v, σ[i]? = some (some v) ∧ P.p G v
theorem SlOk.mono {G G' : Hp} {σ : L2.St} {s : Sls} (h : SlOk G σ s) (k : Same G G') : SlOk G' σ s := ⟨h.len, fun i P e => by
  obtain ⟨v, a, b⟩ := h.at_ i P e
  exact ⟨v, a, P.m k b⟩⟩
theorem SlOk.set {G : Hp} {σ : L2.St} {s : Sls} {v : V} {P : Pr} (h : SlOk G σ s) (i : Nat) (hv : P.p G v) : SlOk G (σ.set i (some v)) (s.set i (some P)) := ⟨by rw [List.length_set, List.length_set, h.len], fun j Q e => by
  by_cases hj : i = j
  · subst hj
    have hl : i < (s.set i (some P)).length := (List.getElem?_eq_some_iff.mp e).1
    rw [List.length_set] at hl
    rw [List.getElem?_set_self hl] at e
    cases e
    exact ⟨v, List.getElem?_set_self (by rw [h.len]; exact hl), hv⟩
  · rw [List.getElem?_set_ne hj] at e ⊢
    exact h.at_ j Q e⟩
/-- forget -/
theorem SlOk.weak {G : Hp} {σ : L2.St} {s s' : Sls} (h : SlOk G σ s) (hl : s'.length = s.length) (hs : ∀ (i : Nat) (P : Pr), s'[i]? = some (some P) → s[i]? = some (some P)) : SlOk G σ s' := ⟨by rw [h.len, hl], fun i P e => h.at_ i P (hs i P e)⟩
def wipeS (s : Sls) : List Nat → Sls
  | [] => s
  | v :: vs => (wipeS s vs).set v none
theorem SlOk.none_ {G : Hp} {σ : L2.St} {s : Sls} (h : SlOk G σ s) (i : Nat) : SlOk G (σ.set i none) (s.set i none) := ⟨by rw [List.length_set, List.length_set, h.len], fun j Q e => by
  by_cases hj : i = j
  · subst hj
    have hl : i < (s.set i none).length := (List.getElem?_eq_some_iff.mp e).1
    rw [List.length_set] at hl
    rw [List.getElem?_set_self hl] at e
    cases e
  · rw [List.getElem?_set_ne hj] at e ⊢
    exact h.at_ j Q e⟩
theorem SlOk.wipe {G : Hp} {σ : L2.St} {s : Sls} (h : SlOk G σ s) : ∀ vs, SlOk G (L2.wipe σ vs) (wipeS s vs)
  | [] => h
  | v :: vs => (SlOk.wipe h vs).none_ v

/-! ### what evaluates to what -/
def Ev (s : Sls) (r : Rs) (te : TE) (P : Pr) (r' : Rs) : Prop :=
  ∀ e G H σ, Mv e G H r → SlOk G σ s → ∀ Q : VK, (∀ v G' H', Mv e G' H' r' → Same G G' → P.p G' v → Q v H') → te σ H Q
def EvT (s : Sls) (r : Rs) (tt : TT) (b : Bool) (r' : Rs) : Prop :=
  ∀ e G H σ, Mv e G H r → SlOk G σ s → ∀ Q : Bool → Hp → Prop, (∀ G' H', Mv e G' H' r' → Same G G' → Q b H') → tt σ H Q
abbrev All2 (G : Hp) : List V → List Pr → Prop := Paired (fun v P => P.p G v)
theorem All2.mono {G G' : Hp} (k : Same G G') : ∀ {vs : List V} {Ps : List Pr}, All2 G vs Ps → All2 G' vs Ps
  | _, _, .nil => .nil
  | _, _, .cons a t => .cons (Pr.m _ k a) (All2.mono k t)
theorem All2.len {G : Hp} {vs : List V} {Ps : List Pr} (h : All2 G vs Ps) : vs.length = Ps.length := Paired.length h
theorem All2.get {G : Hp} : ∀ {vs : List V} {Ps : List Pr} {i : Nat} {v : V}, All2 G vs Ps → vs[i]? = some v → ∃ P, Ps[i]? = some P ∧ P.p G v
  | _, _, _, _, .nil, e => by simp at e
  | _, _, 0, _, .cons a t, e => by simp at e; subst e; exact ⟨_, rfl, a⟩
  | _, _, i + 1, v, .cons a t, e => by
    obtain ⟨P, h1, h2⟩ := All2.get (i := i) (v := v) t (by simpa using e)
    exact ⟨P, by simpa using h1, h2⟩
theorem All2.get' {G : Hp} {vs : List V} {Ps : List Pr} {i : Nat} {P : Pr} (h : All2 G vs Ps) (e : Ps[i]? = some P) : ∃ v, vs[i]? = some v ∧ P.p G v := by
  have hl : i < vs.length := by
    rw [h.len]
    exact (List.getElem?_eq_some_iff.mp e).1
  obtain ⟨Q, h1, h2⟩ := h.get (List.getElem?_eq_getElem hl)
  rw [e] at h1
  cases h1
  exact ⟨_, List.getElem?_eq_getElem hl, h2⟩
theorem All2.app {G : Hp} : ∀ {vs ws : List V} {Ps Qs : List Pr}, All2 G vs Ps → All2 G ws Qs → All2 G (vs ++ ws) (Ps ++ Qs)
  | _, _, _, _, .nil, k => k
  | _, _, _, _, .cons a t, k => .cons a (All2.app t k)
def EvA (s : Sls) (r : Rs) (ta : TA) (Ps : List Pr) (r' : Rs) : Prop :=
  ∀ e G H σ, Mv e G H r → SlOk G σ s → ∀ Q : List V → Hp → Prop, (∀ vs G' H', Mv e G' H' r' → Same G G' → All2 G' vs Ps → Q vs H') → ta σ H Q

/-! ### data -/
def rInt (i : Int) : Pr := ⟨fun _ v => v = .int i, fun _ h => h⟩
def rBl (b : Bool) : Pr := ⟨fun _ v => v = .bl b, fun _ h => h⟩
def rStr (z : Str) : Pr := ⟨fun _ v => v = .str z, fun _ h => h⟩
def rNon : Pr := ⟨fun _ v => v = .non, fun _ h => h⟩
def rAt (a : Addr) : Pr := ⟨fun _ v => v = .ref a, fun _ h => h⟩
def rV (x : V) : Pr := ⟨fun _ v => v = x, fun _ h => h⟩
def rOpt {α : Type} (R : α → Pr) : Option α → Pr
  | none => rNon
  | some a => R a
/-- a list, a tuple of such items -/
def rLs (K : PySem.W.Frag) (Ps : List Pr) : Pr := ⟨fun G v => Ps.length ≤ sizeLine ∧ ∃ a vs, v = .ref a ∧ SqL K G a vs ∧ All2 G vs Ps, fun k ⟨z, a, vs, e, h, q⟩ => ⟨z, a, vs, e, k.seq h, q.mono k⟩⟩
def rTs (K : PySem.W.Frag) (Ps : List Pr) : Pr := ⟨fun G v => Ps.length ≤ sizeLine ∧ ∃ a vs, v = .ref a ∧ SqT K G a vs ∧ All2 G vs Ps, fun k ⟨z, a, vs, e, h, q⟩ => ⟨z, a, vs, e, SqT.ext h k, q.mono k⟩⟩
abbrev AllK (G : Hp) {κ : Type} : List (κ × V) → List (κ × Pr) → Prop := Paired (fun p q => p.1 = q.1 ∧ q.2.p G p.2)
theorem AllK.mono {G G' : Hp} {κ : Type} (k : Same G G') : ∀ {vs : List (κ × V)} {Ps : List (κ × Pr)}, AllK G vs Ps → AllK G' vs Ps
  | _, _, .nil => .nil
  | _, _, .cons a t => .cons ⟨a.1, Pr.m _ k a.2⟩ (AllK.mono k t)
/-- a dict that is not changed any more; with tuples as keys -/
def rDk (kvs : List (Key × Pr)) : Pr := ⟨fun G v => kvs.length ≤ sizeLine ∧ ∃ a od vs, v = .ref a ∧ G a = some (.frz od (.dK vs)) ∧ AllK G vs kvs, fun k ⟨z, a, od, vs, e, h, q⟩ => ⟨z, a, od, vs, e, k _ _ h, q.mono k⟩⟩
def rDt (kvs : List (List Key × Pr)) : Pr := ⟨fun G v => kvs.length ≤ sizeLine ∧ ∃ a od vs, v = .ref a ∧ G a = some (.frz od (.dT vs)) ∧ AllK G vs kvs, fun k ⟨z, a, od, vs, e, h, q⟩ => ⟨z, a, od, vs, e, k _ _ h, q.mono k⟩⟩
/-- an instance of the class at C, its attributes' names ns and what is true of them -/
def rOb (C : Addr) (ns : List Str) (Ps : List Pr) : Pr := ⟨fun G v => ∃ a dx vs, v = .ref a ∧ G a = some (.ins C dx (ns.zip vs)) ∧ vs.length = ns.length ∧ All2 G vs Ps, fun k ⟨a, dx, vs, e, h, z, q⟩ => ⟨a, dx, vs, e, k _ _ h, z, q.mono k⟩⟩
/-- what may be written: a list, a dict, an instance -/
def cLs (Ps : List Pr) : Co := ⟨fun G o => Ps.length ≤ sizeLine ∧ ∃ vs, o = .lst vs ∧ All2 G vs Ps, fun k ⟨z, vs, e, q⟩ => ⟨z, vs, e, q.mono k⟩⟩
def cDk (kvs : List (Key × Pr)) : Co := ⟨fun G o => kvs.length ≤ sizeLine ∧ ∃ vs, o = .dK vs ∧ AllK G vs kvs, fun k ⟨z, vs, e, q⟩ => ⟨z, vs, e, q.mono k⟩⟩
def cDt (kvs : List (List Key × Pr)) : Co := ⟨fun G o => kvs.length ≤ sizeLine ∧ ∃ vs, o = .dT vs ∧ AllK G vs kvs, fun k ⟨z, vs, e, q⟩ => ⟨z, vs, e, q.mono k⟩⟩
def cOb (C : Addr) (ns : List Str) (Ps : List Pr) : Co := ⟨fun G o => ∃ dx vs, o = .ins C dx (ns.zip vs) ∧ vs.length = ns.length ∧ All2 G vs Ps, fun k ⟨dx, vs, e, z, q⟩ => ⟨dx, vs, e, z, q.mono k⟩⟩
/-- the place of a name -/
def look : List Str → Str → Option Nat
  | [], _ => none
  | n :: ns, f => if n = f then some 0 else (look ns f).map (· + 1)
theorem look_at : ∀ {ns : List Str} {f : Str} {i : Nat} {vs : List V} {v : V}, look ns f = some i → vs[i]? = some v → (ns.zip vs).lookup f = some v
  | n :: ns, f, i, [], v, _, e => by simp at e
  | n :: ns, f, i, w :: vs, v, h, e => by
    unfold look at h
    by_cases c : n = f
    · rw [if_pos c] at h
      cases h
      simp at e
      subst e
      rw [List.zip_cons_cons, List.lookup_cons, c, beq_self_eq_true]
    · rw [if_neg c] at h
      obtain ⟨j, hj, rfl⟩ := Option.map_eq_some_iff.mp h
      rw [List.zip_cons_cons, List.lookup_cons, show (f == n) = false from beq_eq_false_iff_ne.mpr (Ne.symm c)]
      exact look_at hj (by simpa using e)
theorem look_no : ∀ {ns : List Str} {f : Str} {vs : List V}, look ns f = none → (ns.zip vs).lookup f = none
  | [], f, vs, _ => rfl
  | n :: ns, f, [], _ => rfl
  | n :: ns, f, w :: vs, h => by
    unfold look at h
    by_cases c : n = f
    · rw [if_pos c] at h; cases h
    · rw [if_neg c] at h
      rw [List.zip_cons_cons, List.lookup_cons, show (f == n) = false from beq_eq_false_iff_ne.mpr (Ne.symm c)]
      exact look_no (by simpa using h)
theorem look_lt : ∀ {ns : List Str} {f : Str} {i : Nat}, look ns f = some i → i < ns.length
  | n :: ns, f, i, h => by
    unfold look at h
    by_cases c : n = f
    · rw [if_pos c] at h; cases h; exact Nat.zero_lt_succ _
    · rw [if_neg c] at h
      obtain ⟨j, hj, rfl⟩ := Option.map_eq_some_iff.mp h
      exact Nat.succ_lt_succ (look_lt hj)
theorem put_at : ∀ {ns : List Str} {f : Str} {i : Nat} {vs : List V} {v : V}, look ns f = some i → vs.length = ns.length → putF f v (ns.zip vs) = ns.zip (vs.set i v)
  | n :: ns, f, i, w :: vs, v, h, z => by
    unfold look at h
    rw [List.zip_cons_cons]
    by_cases c : n = f
    · rw [if_pos c] at h
      cases h
      show (if n = f then (n, v) :: ns.zip vs else (n, w) :: putF f v (ns.zip vs)) = _
      rw [if_pos c]
      rfl
    · rw [if_neg c] at h
      obtain ⟨j, hj, rfl⟩ := Option.map_eq_some_iff.mp h
      show (if n = f then (n, v) :: ns.zip vs else (n, w) :: putF f v (ns.zip vs)) = _
      rw [if_neg c, put_at hj (by simpa using z)]
      rfl
  | n :: ns, f, i, [], v, h, z => by cases z
theorem put_no : ∀ {ns : List Str} {f : Str} {vs : List V} {v : V}, look ns f = none → vs.length = ns.length → putF f v (ns.zip vs) = (ns ++ [f]).zip (vs ++ [v])
  | [], f, [], v, _, _ => rfl
  | [], f, w :: vs, v, _, z => by cases z
  | n :: ns, f, [], v, _, z => by cases z
  | n :: ns, f, w :: vs, v, h, z => by
    unfold look at h
    by_cases c : n = f
    · rw [if_pos c] at h; cases h
    · rw [if_neg c] at h
      rw [List.zip_cons_cons]
      show (if n = f then (n, v) :: ns.zip vs else (n, w) :: putF f v (ns.zip vs)) = _
      rw [if_neg c, put_no (by simpa using h) (by simpa using z)]
      rfl

section
variable {s s' : Sls} {r r' r1 r2 r3 : Rs} {ta tb te : TE} {t u tt : TT} {P Q R : Pr} {K : PySem.W.Frag} {e : Ent} {G H G' H' : Hp}
/-- the other things stay -/
theorem Ev.frame {x : Rs} (h : Ev s r te P r') : Ev s (r ++ x) te P (r' ++ x) := fun e G H σ m k Q q => by
  have m1 : Mv ⟨G, H, r⟩ G H r := (m.sub_r (r' := r) (fun y hy => List.mem_append_left _ hy) (by
    have := m.nd
    unfold dom at this ⊢
    rw [List.map_append] at this
    exact (List.nodup_append.mp this).1)).self
  exact h _ G H σ m1 k Q fun v G' H' m2 sg hv => q v G' H' (m.trans m2) sg hv
theorem EvT.frame {x : Rs} {b : Bool} (h : EvT s r tt b r') : EvT s (r ++ x) tt b (r' ++ x) := fun e G H σ m k Q q => by
  have m1 : Mv ⟨G, H, r⟩ G H r := (m.sub_r (r' := r) (fun y hy => List.mem_append_left _ hy) (by
    have := m.nd
    unfold dom at this ⊢
    rw [List.map_append] at this
    exact (List.nodup_append.mp this).1)).self
  exact h _ G H σ m1 k Q fun G' H' m2 sg => q G' H' (m.trans m2) sg
theorem Ev.perm {ra rb : Rs} (h : Ev s r te P r') (p : ra.Perm r) (p' : r'.Perm rb) : Ev s ra te P rb := fun e G H σ m k Q q => h e G H σ (m.perm p) k Q fun v G' H' m2 sg hv => q v G' H' (m2.perm p') sg hv
theorem EvT.perm {ra rb : Rs} {b : Bool} (h : EvT s r tt b r') (p : ra.Perm r) (p' : r'.Perm rb) : EvT s ra tt b rb := fun e G H σ m k Q q => h e G H σ (m.perm p) k Q fun G' H' m2 sg => q G' H' (m2.perm p') sg
/-- one thing more, in front -/
theorem Ev.front {x : Addr × Co} (h : Ev s r te P r') : Ev s (x :: r) te P (x :: r') := (h.frame (x := [x])).perm (List.perm_append_singleton x r).symm (List.perm_append_singleton x r')
theorem EvT.front {x : Addr × Co} {b : Bool} (h : EvT s r tt b r') : EvT s (x :: r) tt b (x :: r') := (h.frame (x := [x])).perm (List.perm_append_singleton x r).symm (List.perm_append_singleton x r')
theorem Ev.to (h : Ev s r te P r') (k : P = Q) : Ev s r te Q r' := k ▸ h
theorem Ev.imp (h : Ev s r te P r') (k : ∀ G v, P.p G v → Q.p G v) : Ev s r te Q r' := fun e G H σ m l W w => h e G H σ m l W fun v G' H' m2 sg hv => w v G' H' m2 sg (k _ _ hv)
theorem EvT.to {b b' : Bool} (h : EvT s r tt b r') (k : b = b') : EvT s r tt b' r' := k ▸ h
/-- names, constants -/
theorem ev_var {i : Nat} (h : s[i]? = some (some P)) : Ev s r (tVar i) P r := fun e G H σ m k Q q => by
  obtain ⟨v, a, b⟩ := k.at_ i P h
  exact ⟨v, a, q v G H m (Same.refl _) b⟩
theorem ev_int {i : Int} : Ev s r (tC (.int i)) (rInt i) r := fun e G H σ m k Q q => q _ G H m (Same.refl _) rfl
theorem ev_bl {b : Bool} : Ev s r (tC (.bl b)) (rBl b) r := fun e G H σ m k Q q => q _ G H m (Same.refl _) rfl
theorem ev_str {z : Str} : Ev s r (tC (.str z)) (rStr z) r := fun e G H σ m k Q q => q _ G H m (Same.refl _) rfl
theorem ev_non : Ev s r (tC .non) rNon r := fun e G H σ m k Q q => q _ G H m (Same.refl _) rfl
theorem ev_cV {x : V} : Ev s r (tC x) (rV x) r := fun e G H σ m k Q q => q _ G H m (Same.refl _) rfl
/-- operators by values -/
def RVp (f : R2) (P Q R : Pr) : Prop := ∀ G H x y, Same G H → P.p G x → Q.p G y → ∀ W : VK, (∀ v, R.p G v → W v H) → f x y H W
theorem ev_op {f : R2} (ha : Ev s r ta P r1) (hb : Ev s r1 tb Q r2) (hr : RVp f P Q R) : Ev s r (tOp f ta tb) R r2 := fun e G H σ m k W w =>
  ha e G H σ m k _ fun x G1 H1 m1 g1 px => hb e G1 H1 σ m1 (k.mono g1) _ fun y G2 H2 m2 g2 py => hr G2 H2 x y m2.sub (P.m g2 px) py W fun v pv => w v G2 H2 m2 (g1.trans g2) pv
/-- operators that make something new -/
def RVn (f : R2) (P Q R : Pr) : Prop := ∀ G H x y, Same G H → P.p G x → Q.p G y → ∀ W : VK, (∀ v o, (∀ G, R.p (upd G v o) (.ref v)) → H v = none → W (.ref v) (upd H v o)) → f x y H W
theorem ev_op0 {f : R2} {g : Int → Int → V} {i j : Int} (ha : Ev s r ta (rInt i) r1) (hb : Ev s r1 tb (rInt j) r2) (hf : f = rI0 g) (hR : ∀ G, R.p G (g i j)) : Ev s r (tOp f ta tb) R r2 := ev_op ha hb fun G H x y _ hx hy W w => by
  subst hf
  exact ⟨i, j, hx, hy, w _ (hR G)⟩
theorem ev_opI {f : R2} {C : Int → Int → Prop} {g : Int → Int → V} {i j : Int} (ha : Ev s r ta (rInt i) r1) (hb : Ev s r1 tb (rInt j) r2) (hf : f = rI C g) (hc : C i j) (hR : ∀ G, R.p G (g i j)) : Ev s r (tOp f ta tb) R r2 := ev_op ha hb fun G H x y _ hx hy W w => by
  subst hf
  exact ⟨i, j, hx, hy, hc, w _ (hR G)⟩
theorem ev_un {f : V → Hp → VK → Prop} (ha : Ev s r ta P r1) (hr : ∀ G H x, Same G H → P.p G x → ∀ W : VK, (∀ v, R.p G v → W v H) → f x H W) : Ev s r (tUn f ta) R r1 := fun e G H σ m k W w =>
  ha e G H σ m k _ fun x G1 H1 m1 g1 px => hr G1 H1 x m1.sub px W fun v pv => w v G1 H1 m1 g1 pv
/-- tests -/
theorem et_test {b : Bool} (h : Ev s r te (rBl b) r1) : EvT s r (tTest te) b r1 := fun e G H σ m k W w => h e G H σ m k _ fun v G1 H1 m1 g1 pv => ⟨b, pv, w G1 H1 m1 g1⟩
theorem et_B {b : Bool} (h : Ev s r te (rBl b) r1) : EvT s r (tB te) b r1 := fun e G H σ m k W w => h e G H σ m k _ fun v G1 H1 m1 g1 pv => ⟨b, pv, w G1 H1 m1 g1⟩
theorem et_not {b : Bool} (h : EvT s r t b r1) : EvT s r (tNot t) (!b) r1 := fun e G H σ m k W w => h e G H σ m k _ fun G1 H1 m1 g1 => w G1 H1 m1 g1
theorem et_and {a b : Bool} (h : EvT s r t a r) (h2 : a = true → EvT s r u b r) : EvT s r (tAnd t u) (a && b) r := fun e G H σ m k W w => h e G H σ m k _ fun G1 H1 m1 g1 => by
  cases a with
  | true => exact h2 rfl e G1 H1 σ m1 (k.mono g1) _ fun G2 H2 m2 g2 => w G2 H2 m2 (g1.trans g2)
  | false => exact w G1 H1 m1 g1
theorem et_or {a b : Bool} (h : EvT s r t a r) (h2 : a = false → EvT s r u b r) : EvT s r (tOr t u) (a || b) r := fun e G H σ m k W w => h e G H σ m k _ fun G1 H1 m1 g1 => by
  cases a with
  | true => exact w G1 H1 m1 g1
  | false => exact h2 rfl e G1 H1 σ m1 (k.mono g1) _ fun G2 H2 m2 g2 => w G2 H2 m2 (g1.trans g2)
theorem ev_andV {a b : Bool} (h : Ev s r ta (rBl a) r) (h2 : a = true → Ev s r tb (rBl b) r) : Ev s r (tAndV ta tb) (rBl (a && b)) r := fun e G H σ m k W w => h e G H σ m k _ fun v G1 H1 m1 g1 pv => ⟨a, pv, by
  cases a with
  | true => exact h2 rfl e G1 H1 σ m1 (k.mono g1) _ fun v G2 H2 m2 g2 pv => w v G2 H2 m2 (g1.trans g2) pv
  | false => exact w _ G1 H1 m1 g1 rfl⟩
theorem ev_orV {a b : Bool} (h : Ev s r ta (rBl a) r) (h2 : a = false → Ev s r tb (rBl b) r) : Ev s r (tOrV ta tb) (rBl (a || b)) r := fun e G H σ m k W w => h e G H σ m k _ fun v G1 H1 m1 g1 pv => ⟨a, pv, by
  cases a with
  | true => exact w _ G1 H1 m1 g1 rfl
  | false => exact h2 rfl e G1 H1 σ m1 (k.mono g1) _ fun v G2 H2 m2 g2 pv => w v G2 H2 m2 (g1.trans g2) pv⟩
theorem ev_notV {a : Bool} (h : Ev s r ta (rBl a) r1) : Ev s r (tNotV ta) (rBl (!a)) r1 := fun e G H σ m k W w => h e G H σ m k _ fun v G1 H1 m1 g1 pv => ⟨a, pv, w _ G1 H1 m1 g1 rfl⟩
theorem ev_if {b : Bool} (h : EvT s r t b r1) (h1 : b = true → Ev s r1 ta P r2) (h2 : b = false → Ev s r1 tb P r2) : Ev s r (tIf t ta tb) P r2 := fun e G H σ m k W w => h e G H σ m k _ fun G1 H1 m1 g1 => by
  cases b with
  | true => exact h1 rfl e G1 H1 σ m1 (k.mono g1) _ fun v G2 H2 m2 g2 pv => w v G2 H2 m2 (g1.trans g2) pv
  | false => exact h2 rfl e G1 H1 σ m1 (k.mono g1) _ fun v G2 H2 m2 g2 pv => w v G2 H2 m2 (g1.trans g2) pv
/-- arguments, tuples, lists -/
theorem ea_nil : EvA s r tNil [] r := fun e G H σ m k W w => w [] G H m (Same.refl _) .nil
theorem ea_cons {tr : TA} {Ps : List Pr} (h : Ev s r ta P r1) (h2 : EvA s r1 tr Ps r2) : EvA s r (tCons ta tr) (P :: Ps) r2 := fun e G H σ m k W w =>
  h e G H σ m k _ fun v G1 H1 m1 g1 pv => h2 e G1 H1 σ m1 (k.mono g1) _ fun vs G2 H2 m2 g2 pvs => w _ G2 H2 m2 (g1.trans g2) (.cons (P.m g2 pv) pvs)
theorem ev_tup (K : PySem.W.Frag) {tr : TA} {Ps : List Pr} (h : EvA s r tr Ps r1) (hz : Ps.length ≤ 1000 := by first | decide | exact Nat.le_of_ble_eq_true rfl) : Ev s r (tTup tr) (rTs K Ps) r1 := fun e G H σ m k W w =>
  h e G H σ m k _ fun vs G1 H1 m1 g1 pvs => ⟨by rw [pvs.len]; exact Nat.le_trans hz (by decide), fun p hp => w _ (upd G1 p (.tup vs)) _ (m1.new hp) (g1.trans (same_new (m1.sub.free hp))) ⟨Nat.le_trans hz (by decide), p, vs, rfl, SqT.of upd_same, pvs.mono (same_new (m1.sub.free hp))⟩⟩
theorem ev_lst (K : PySem.W.Frag) {tr : TA} {Ps : List Pr} (h : EvA s r tr Ps r1) (hz : Ps.length ≤ 1000 := by first | decide | exact Nat.le_of_ble_eq_true rfl) : Ev s r (tLst tr) (rLs K Ps) r1 := fun e G H σ m k W w =>
  h e G H σ m k _ fun vs G1 H1 m1 g1 pvs => ⟨by rw [pvs.len]; exact Nat.le_trans hz (by decide), fun p hp => w _ (upd G1 p (.lst vs)) _ (m1.new hp) (g1.trans (same_new (m1.sub.free hp))) ⟨Nat.le_trans hz (by decide), p, vs, rfl, SqL.of upd_same, pvs.mono (same_new (m1.sub.free hp))⟩⟩
/-- a call by values that makes nothing -/
theorem ev_cb {f : List V → Hp → VK → Prop} {tr : TA} {Ps : List Pr} (h : EvA s r tr Ps r1) (hr : ∀ G H vs, Same G H → All2 G vs Ps → ∀ W : VK, (∀ v, R.p G v → W v H) → f vs H W) : Ev s r (tCB f tr) R r1 := fun e G H σ m k W w =>
  h e G H σ m k _ fun vs G1 H1 m1 g1 pvs => hr G1 H1 vs m1.sub pvs W fun v pv => w v G1 H1 m1 g1 pv
/-- .. that makes one thing -/
theorem ev_cbN {f : List V → Hp → VK → Prop} {tr : TA} {Ps : List Pr} (h : EvA s r tr Ps r1) (hr : ∀ G H vs, Same G H → All2 G vs Ps → ∀ W : VK, (∀ p o, H p = none → (∀ G', Same G G' → G' p = some o → R.p G' (.ref p)) → W (.ref p) (upd H p o)) → f vs H W) : Ev s r (tCB f tr) R r1 := fun e G H σ m k W w =>
  h e G H σ m k _ fun vs G1 H1 m1 g1 pvs => hr G1 H1 vs m1.sub pvs W fun p o hp pv => w _ _ _ (m1.new hp) (g1.trans (same_new (m1.sub.free hp))) (pv _ (same_new (m1.sub.free hp)) upd_same)
/-- fields -/
theorem ev_fld {C : Addr} {ns : List Str} {Ps : List Pr} {f : Str} (i : Nat) (h : Ev s r te (rOb C ns Ps) r1) (hc : Cls K C) (hn : NoAttr K C f) (hl : look ns f = some i) (hi : Ps[i]? = some P) : Ev s r (tFld K te f) P r1 := fun e G H σ m k W w =>
  h e G H σ m k _ fun v G1 H1 m1 g1 ⟨a, dx, vs, ev, ho, z, q⟩ => by
    obtain ⟨x, l, px⟩ := q.get' hi
    exact ⟨a, C, dx, _, x, ev, m1.sub _ _ ho, hc, hn, look_at hl l, w x G1 H1 m1 g1 px⟩
/-- of a thing that may be written -/
theorem ev_fldO {C : Addr} {a : Addr} {ns : List Str} {Ps : List Pr} {f : Str} (i : Nat) (h : Ev s r te (rAt a) r1) (hm : (a, cOb C ns Ps) ∈ r1) (hc : Cls K C) (hn : NoAttr K C f) (hl : look ns f = some i) (hi : Ps[i]? = some P) : Ev s r (tFld K te f) P r1 := fun e G H σ m k W w =>
  h e G H σ m k _ fun v G1 H1 m1 g1 pv => by
    obtain ⟨o, ho, ⟨dx, vs, eo, z, q⟩, _⟩ := m1.rs _ hm
    subst eo
    obtain ⟨x, l, px⟩ := q.get' hi
    exact ⟨a, C, dx, _, x, pv, ho, hc, hn, look_at hl l, w x G1 H1 m1 g1 px⟩
end
end FL

namespace FL
open PySem PySem.Spec PyProof.Rows L2 StX
section
variable {e : Ent} {G H G' H' : Hp} {r r' rc rest pre post : Rs}
/-- a thing that nobody asks for -/
theorem Mv.hid {p : Addr} {o : HO} (h : Mv e G H r) (hp : H p = none) : Mv e G (upd H p o) r := by
  have gp : G p = none := h.sub.free hp
  have nr : ∀ x ∈ r, x.1 ≠ p := fun x hx z => by
    obtain ⟨u, a, _⟩ := h.rs x hx
    rw [z, hp] at a; cases a
  refine ⟨h.gg, fun a u q hn => ?_, fun a u q => ?_, h.nw, fun x hx => ?_, h.nd⟩
  · have := h.hh a u q hn
    rw [upd_ne (ne_of_none this hp)]; exact this
  · rw [upd_ne (ne_of_none q gp)]; exact h.sub a u q
  · obtain ⟨u, a, b, c, d⟩ := h.rs x hx
    exact ⟨u, by rw [upd_ne (nr x hx)]; exact a, b, c, d⟩
theorem Mv.putAt {p : Addr} {o : HO} {C C' : Co} (h : Mv e G H (pre ++ (p, C) :: post)) (hc : C'.p G o) : Mv e G (upd H p o) (pre ++ (p, C') :: post) :=
  ((h.perm List.perm_middle).put hc).perm List.perm_middle.symm
theorem Mv.freezeAt {p : Addr} {C : Co} (h : Mv e G H (pre ++ (p, C) :: post)) : ∃ o, H p = some o ∧ C.p G o ∧ G p = none ∧ Mv e (upd G p o) H (pre ++ post) := (h.perm List.perm_middle).freeze
theorem Mv.at_ {p : Addr} {C : Co} (h : Mv e G H r) (hm : (p, C) ∈ r) : ∃ o, H p = some o ∧ C.p G o := by
  obtain ⟨o, a, b, _⟩ := h.rs _ hm
  exact ⟨o, a, b⟩
theorem Mv.drop (h : Mv e G H (rc ++ rest)) : Mv e G H rc := h.sub_r (fun y hy => List.mem_append_left _ hy) (by
  have := h.nd
  unfold dom at this ⊢
  rw [List.map_append] at this
  exact (List.nodup_append.mp this).1)
theorem Mv.nil (h : Mv e G H r) : Mv e G H [] := h.sub_r (fun x hx => nomatch hx) List.nodup_nil
end
/-! ### existentially many ends of an expression -/
def EvX (s : Sls) (r : Rs) (te : TE) (Φ : Pr → Rs → Prop) : Prop :=
  ∀ e G H σ, Mv e G H r → SlOk G σ s → ∀ Q : VK, (∀ v G' H' P r', Φ P r' → Mv e G' H' r' → Same G G' → P.p G' v → Q v H') → te σ H Q
def isP (P : Pr) (r : Rs) : Pr → Rs → Prop := fun P' r' => P' = P ∧ r' = r
section
variable {s s' s1 s2 : Sls} {r r' r1 r2 r3 rc rest pre post : Rs} {ta tb te : TE} {t u tt : TT} {P Q R : Pr} {K : PySem.W.Frag} {e : Ent} {G H G' H' : Hp} {Φ : Pr → Rs → Prop} {tg : TG}
theorem Ev.x (h : Ev s r te P r') : EvX s r te (isP P r') := fun e G H σ m k Q q => h e G H σ m k Q fun v G' H' m' g p => q v G' H' P r' ⟨rfl, rfl⟩ m' g p
theorem EvX.ev (h : EvX s r te Φ) (k : ∀ P' r'', Φ P' r'' → P' = P ∧ r'' = r') : Ev s r te P r' := fun e G H σ m l Q q => h e G H σ m l Q fun v G' H' P' r'' f m' g p => by
  obtain ⟨rfl, rfl⟩ := k _ _ f
  exact q v G' H' m' g p
/-- a new list, a new dict, to be written -/
theorem ex_newL : EvX s r (tLst tNil) (fun P r' => ∃ a, P = rAt a ∧ r' = (a, cLs []) :: r) := fun e G H σ m k Q q => ⟨Nat.zero_le _, fun p hp => q _ G _ (rAt p) _ ⟨p, rfl, rfl⟩ (m.own hp ⟨Nat.zero_le _, [], rfl, .nil⟩) (Same.refl _) rfl⟩
theorem ex_newD : EvX s r tDNewK (fun P r' => ∃ a, P = rAt a ∧ r' = (a, cDk []) :: r) := fun e G H σ m k Q q p hp => q _ G _ (rAt p) _ ⟨p, rfl, rfl⟩ (m.own hp ⟨Nat.zero_le _, [], rfl, .nil⟩) (Same.refl _) rfl
theorem ex_newT : EvX s r tDNewT (fun P r' => ∃ a, P = rAt a ∧ r' = (a, cDt []) :: r) := fun e G H σ m k Q q p hp => q _ G _ (rAt p) _ ⟨p, rfl, rfl⟩ (m.own hp ⟨Nat.zero_le _, [], rfl, .nil⟩) (Same.refl _) rfl
/-- a list that may be written becomes a datum -/
theorem ev_frL {a : Addr} {Ps : List Pr} (h : Ev s r te (rAt a) (pre ++ (a, cLs Ps) :: post)) : Ev s r te (rLs K Ps) (pre ++ post) := fun e G H σ m k Q q => h e G H σ m k Q fun v G' H' m' g p => by
  obtain ⟨o, ho, ⟨z, vs, rfl, al⟩, gn, m2⟩ := m'.freezeAt
  exact q v _ H' m2 (g.trans (same_new gn)) ⟨z, a, vs, p, SqL.of upd_same, al.mono (same_new gn)⟩
/-- an instance -/
theorem ev_frO {a C : Addr} {ns : List Str} {Ps : List Pr} (h : Ev s r te (rAt a) (pre ++ (a, cOb C ns Ps) :: post)) : Ev s r te (rOb C ns Ps) (pre ++ post) := fun e G H σ m k Q q => h e G H σ m k Q fun v G' H' m' g p => by
  obtain ⟨o, ho, ⟨dx, vs, rfl, z, al⟩, gn, m2⟩ := m'.freezeAt
  exact q v _ H' m2 (g.trans (same_new gn)) ⟨a, dx, vs, p, upd_same, z, al.mono (same_new gn)⟩

/-! ### statements -/
structure Po where
  nx : Sls → Rs → Prop
  rt : Pr → Rs → Prop
  bk : Sls → Rs → Prop := fun _ _ => False
  ct : Sls → Rs → Prop := fun _ _ => False
structure Le (e : Ent) (G0 : Hp) (P : Po) (D : Ends) : Prop where
  nx : ∀ s r G σ H, P.nx s r → Mv e G H r → Same G0 G → SlOk G σ s → D.nx σ H
  rt : ∀ R r G v H, P.rt R r → Mv e G H r → Same G0 G → R.p G v → D.rt v H
  bk : ∀ s r G σ H, P.bk s r → Mv e G H r → Same G0 G → SlOk G σ s → D.bk σ H
  ct : ∀ s r G σ H, P.ct s r → Mv e G H r → Same G0 G → SlOk G σ s → D.ct σ H
theorem Le.mono {p : Po} {D : Ends} (h : Le e G p D) (k : Same G G') : Le e G' p D := ⟨fun s r G1 σ H a b c => h.nx s r G1 σ H a b (k.trans c), fun s r G1 σ H a b c => h.rt s r G1 σ H a b (k.trans c), fun s r G1 σ H a b c => h.bk s r G1 σ H a b (k.trans c), fun s r G1 σ H a b c => h.ct s r G1 σ H a b (k.trans c)⟩
def Ok (e : Ent) (s : Sls) (r : Rs) (t : TS) (p : Po) : Prop := ∀ G H σ, Mv e G H r → SlOk G σ s → ∀ D, Le e G p D → t D σ H
def at1 (s : Sls) (r : Rs) : Sls → Rs → Prop := fun s' r' => s' = s ∧ r' = r
variable {po po' : Po} {ts us : TS} {M : Sls → Rs → Prop}
theorem ok_seq (M : Sls → Rs → Prop) (h : Ok e s r ts { po with nx := M }) (k : ∀ s' r', M s' r' → Ok e s' r' us po) : Ok e s r (tSeq ts us) po := fun G H σ m l D d =>
  h G H σ m l { D with nx := us D } ⟨fun s' r' G1 σ1 H1 a b c f => k s' r' a G1 H1 σ1 b f D (d.mono c), d.rt, d.bk, d.ct⟩
theorem ok_seq1 {s' : Sls} {r' : Rs} (h : Ok e s r ts { po with nx := at1 s' r' }) (k : Ok e s' r' us po) : Ok e s r (tSeq ts us) po := ok_seq _ h fun s2 r2 ⟨a, b⟩ => by subst a; subst b; exact k
theorem Ok.imp (h : Ok e s r ts po') (k1 : ∀ s r, po'.nx s r → po.nx s r) (k2 : ∀ R r, po'.rt R r → po.rt R r) (k3 : ∀ s r, po'.bk s r → po.bk s r) (k4 : ∀ s r, po'.ct s r → po.ct s r) : Ok e s r ts po := fun G H σ m l D d =>
  h G H σ m l D ⟨fun s r G σ H a => d.nx s r G σ H (k1 _ _ a), fun s r G σ H a => d.rt s r G σ H (k2 _ _ a), fun s r G σ H a => d.bk s r G σ H (k3 _ _ a), fun s r G σ H a => d.ct s r G σ H (k4 _ _ a)⟩
/-- names are forgotten, things too -/
theorem Ok.weak (h : Ok e s' r ts po) (hl : s'.length = s.length) (hs : ∀ (i : Nat) (P : Pr), s'[i]? = some (some P) → s[i]? = some (some P)) : Ok e s r ts po := fun G H σ m l D d => h G H σ m (l.weak hl hs) D d
theorem Ok.less (h : Ok e s rc ts po) : Ok e s (rc ++ rest) ts po := fun G H σ m l D d => h G H σ m.drop l D d
theorem Ok.perm (h : Ok e s rc ts po) (q : r.Perm rc) : Ok e s r ts po := fun G H σ m l D d => h G H σ (m.perm q) l D d
theorem ok_next (h : po.nx s r) : Ok e s r tNext po := fun G H σ m l D d => d.nx _ _ _ _ _ h m (Same.refl _) l
theorem ok_brk (h : po.bk s r) : Ok e s r tBreak po := fun G H σ m l D d => d.bk _ _ _ _ _ h m (Same.refl _) l
theorem ok_cont (h : po.ct s r) : Ok e s r tCont po := fun G H σ m l D d => d.ct _ _ _ _ _ h m (Same.refl _) l
theorem ok_ret (h : Ev s r te P r1) (k : po.rt P r1) : Ok e s r (tRet te) po := fun G H σ m l D d => h e G H σ m l _ fun v G1 H1 m1 g1 pv => d.rt _ _ _ _ _ k m1 g1 pv
theorem ok_retX (h : EvX s r te Φ) (k : ∀ P r', Φ P r' → po.rt P r') : Ok e s r (tRet te) po := fun G H σ m l D d => h e G H σ m l _ fun v G1 H1 P r' f m1 g1 pv => d.rt _ _ _ _ _ (k _ _ f) m1 g1 pv
theorem ok_retN (k : po.rt rNon r) : Ok e s r tRetN po := fun G H σ m l D d => d.rt _ _ _ _ _ k m (Same.refl _) rfl
theorem ok_drop (h : Ev s r te P r1) (k : po.nx s r1) : Ok e s r (tDrop te) po := fun G H σ m l D d => h e G H σ m l _ fun v G1 H1 m1 g1 pv => d.nx _ _ _ _ _ k m1 g1 (l.mono g1)
theorem ok_dropX (h : EvX s r te Φ) (k : ∀ P r', Φ P r' → po.nx s r') : Ok e s r (tDrop te) po := fun G H σ m l D d => h e G H σ m l _ fun v G1 H1 P r' f m1 g1 pv => d.nx _ _ _ _ _ (k _ _ f) m1 g1 (l.mono g1)
theorem ok_if {b : Bool} {c : TT} (h : EvT s r c b r1) (h1 : b = true → Ok e s r1 ts po) (h2 : b = false → Ok e s r1 us po) : Ok e s r (tIfS c ts us) po := fun G H σ m l D d => h e G H σ m l _ fun G1 H1 m1 g1 => by
  cases b with
  | true => exact h1 rfl G1 H1 σ m1 (l.mono g1) D (d.mono g1)
  | false => exact h2 rfl G1 H1 σ m1 (l.mono g1) D (d.mono g1)
/-- targets -/
def Bg (g : TG) (P : Pr) (s s' : Sls) (vs : List Nat) : Prop := ∀ G H σ v, P.p G v → Same G H → SlOk G σ s → ∀ Q : L2.St → Hp → Prop, (∀ σ', SlOk G σ' s' → σ'.length = σ.length → (∀ i, i ∉ vs → σ'[i]? = σ[i]?) → Q σ' H) → g v σ H Q
def Bgs (g : TGs) (Ps : List Pr) (s s' : Sls) (vs : List Nat) : Prop := ∀ G H σ ws, All2 G ws Ps → Same G H → SlOk G σ s → ∀ Q : L2.St → Hp → Prop, (∀ σ', SlOk G σ' s' → σ'.length = σ.length → (∀ i, i ∉ vs → σ'[i]? = σ[i]?) → Q σ' H) → g ws σ H Q
theorem bg_name {i : Nat} : Bg (gName i) P s (s.set i (some P)) [i] := fun G H σ v hv hs l Q q => q _ (l.set i hv) (List.length_set ..) fun j hj => List.getElem?_set_ne (fun z => hj (by rw [z]; exact List.mem_singleton.mpr rfl))
theorem bgs_nil : Bgs gNil [] s s [] := fun G H σ ws hw hs l Q q => by
  cases hw
  exact ⟨rfl, q σ l rfl fun _ _ => rfl⟩
theorem bgs_cons {g : TG} {gs : TGs} {Ps : List Pr} {vs ws : List Nat} (h : Bg g P s s1 vs) (k : Bgs gs Ps s1 s2 ws) : Bgs (gCons g gs) (P :: Ps) s s2 (vs ++ ws) := fun G H σ xs hx hs l Q q => by
  cases hx with
  | cons a t =>
    refine ⟨_, _, rfl, h G H σ _ a hs l _ fun σ1 l1 n1 k1 => k G H σ1 _ t hs l1 _ fun σ2 l2 n2 k2 => q σ2 l2 (n2.trans n1) fun i hi => ?_⟩
    have hi2 : i ∉ vs ∧ i ∉ ws := by simpa [not_or] using hi
    exact (k2 i hi2.2).trans (k1 i hi2.1)
theorem bg_tup {gs : TGs} {Ps : List Pr} {n : Nat} {vs : List Nat} (h : Bgs gs Ps s s1 vs) (hn : Ps.length = n) : Bg (gTup K n gs) (rTs K Ps) s s1 vs := fun G H σ v ⟨z, a, ws, ev, hw, al⟩ hs l Q q =>
  ⟨a, ws, ev, SqT.ext hw hs, by rw [al.len, hn], h G H σ ws al hs l Q q⟩
theorem ok_asgG {vs : List Nat} (h : Ev s r te P r1) (b : Bg tg P s s1 vs) (k : po.nx s1 r1) : Ok e s r (tAsg te tg) po := fun G H σ m l D d => h e G H σ m l _ fun v G1 H1 m1 g1 pv => b G1 H1 σ v pv m1.sub (l.mono g1) _ fun σ' l' _ _ => d.nx _ _ _ _ _ k m1 g1 l'
theorem ok_asg {i : Nat} (h : Ev s r te P r1) (k : po.nx (s.set i (some P)) r1) : Ok e s r (tAsg te (gName i)) po := ok_asgG h bg_name k
theorem ok_asgX {i : Nat} (h : EvX s r te Φ) (k : ∀ P r', Φ P r' → po.nx (s.set i (some P)) r') : Ok e s r (tAsg te (gName i)) po := fun G H σ m l D d => h e G H σ m l _ fun v G1 H1 P r' f m1 g1 pv => d.nx _ _ _ _ _ (k _ _ f) m1 g1 ((l.mono g1).set i pv)
theorem ok_aug {i : Nat} {f : Int → Int → Int} {a b : Int} (hx : s[i]? = some (some (rInt a))) (h : Ev s r te (rInt b) r1) (k : po.nx (s.set i (some (rInt (f a b)))) r1) : Ok e s r (tAug i te (ipI f)) po := fun G H σ m l D d => by
  obtain ⟨x, hσ, px⟩ := l.at_ i _ hx
  exact ⟨x, hσ, h e G H σ m l _ fun v G1 H1 m1 g1 pv => ⟨a, b, px, pv, d.nx _ _ _ _ _ k m1 g1 ((l.mono g1).set i rfl)⟩⟩
theorem ok_par {i j : Nat} {ta : TA} (h : EvA s r ta [P, Q] r1) (k : po.nx ((s.set i (some P)).set j (some Q)) r1) : Ok e s r (tPar i j ta) po := fun G H σ m l D d => h e G H σ m l _ fun vs G1 H1 m1 g1 pv => by
  cases pv with
  | cons a t =>
    cases t with
    | cons b t =>
      cases t
      exact ⟨_, _, rfl, d.nx _ _ _ _ _ k m1 g1 (((l.mono g1).set i a).set j b)⟩
/-- xs.append(e) -/
theorem ok_app {a : Addr} {Ps : List Pr} (ha : Ev s r ta (rAt a) r1) (h1 : (a, cLs Ps) ∈ r1) (h : Ev s r1 te P (pre ++ (a, cLs Ps) :: post)) (hz : Ps.length < sizeLine) (k : po.nx s (pre ++ (a, cLs (Ps ++ [P])) :: post)) :
    Ok e s r (tDrop (tBM K "list" rAppend ta (tCons te tNil))) po := fun G H σ m l D d => ha e G H σ m l _ fun v G1 H1 m1 g1 pv => by
  obtain ⟨o1, ho1, ⟨_, vs1, rfl, _⟩⟩ := m1.at_ h1
  subst pv
  refine ⟨.inl ⟨rfl, _, SqL.of ho1⟩, h e G1 H1 σ m1 (l.mono g1) _ fun w G2 H2 m2 g2 pw => ?_⟩
  obtain ⟨o2, ho2, ⟨z2, vs2, rfl, al⟩⟩ := m2.at_ (List.mem_append_right _ List.mem_cons_self)
  refine ⟨a, vs2, w, rfl, rfl, ho2, by rw [al.len]; exact hz, d.nx _ _ _ _ _ k (m2.putAt (C' := cLs (Ps ++ [P])) ⟨by rw [List.length_append]; exact hz, _, rfl, al.app (.cons pw .nil)⟩) (g1.trans g2) (l.mono (g1.trans g2))⟩
/-! ### walks -/
def Push (G H G' H' : Hp) : Prop := Same G G' ∧ ∀ e r, Mv e G H r → Mv e G' H' r
theorem Push.rfl {G H : Hp} : Push G H G H := ⟨Same.refl _, fun _ _ h => h⟩
structure Wk (J : It) (G0 : Hp) (Ps : List Pr) : Prop where
  z : Ps.length ≤ sizeLine
  go : ∀ G H i, Same G0 G → Same G H → i < Ps.length → J.go i H
  stop : ∀ G H, Same G0 G → Same G H → J.stop Ps.length H
  yld : ∀ G H i x H', Same G0 G → Same G H → J.yld i H x H' → i < Ps.length → ∃ G' P, Push G H G' H' ∧ Ps[i]? = some P ∧ P.p G' x
def EvI (s : Sls) (r : Rs) (wi : TI) (Ps : List Pr) (r' : Rs) : Prop :=
  ∀ e G H σ, Mv e G H r → SlOk G σ s → ∀ R : It → Hp → Prop, (∀ J G' H', Mv e G' H' r' → Same G G' → Wk J G' Ps → R J H') → wi σ H R
theorem ei_list {Ps : List Pr} (h : Ev s r te (rLs K Ps) r1) : EvI s r (iList K te) Ps r1 := fun e G H σ m l R q => h e G H σ m l _ fun v G1 H1 m1 g1 ⟨z, a, vs, ev, hs, al⟩ => ⟨a, ev, ⟨vs, m1.sub.seq hs⟩, q _ G1 H1 m1 g1 ⟨z,
  fun G2 H2 i s1 s2 hi => ⟨vs, vs[i]'(by rw [al.len]; exact hi), (s1.trans s2).seq hs, List.getElem?_eq_getElem _⟩, fun G2 H2 s1 s2 => ⟨vs, (s1.trans s2).seq hs, by rw [al.len]; exact Nat.le_refl _⟩,
  fun G2 H2 i x H3 s1 s2 ⟨e1, y⟩ hi => by
    subst e1
    obtain ⟨P, h1, h2⟩ := al.get (y vs ((s1.trans s2).seq hs))
    exact ⟨G2, P, .rfl, h1, P.m s1 h2⟩⟩⟩
theorem ei_tup {Ps : List Pr} (h : Ev s r te (rTs K Ps) r1) : EvI s r (iTup K te) Ps r1 := fun e G H σ m l R q => h e G H σ m l _ fun v G1 H1 m1 g1 ⟨z, a, vs, ev, hs, al⟩ => ⟨a, ev, ⟨vs, SqT.ext hs m1.sub⟩, q _ G1 H1 m1 g1 ⟨z,
  fun G2 H2 i s1 s2 hi => ⟨vs, vs[i]'(by rw [al.len]; exact hi), SqT.ext hs (s1.trans s2), List.getElem?_eq_getElem _⟩, fun G2 H2 s1 s2 => ⟨vs, SqT.ext hs (s1.trans s2), by rw [al.len]; exact Nat.le_refl _⟩,
  fun G2 H2 i x H3 s1 s2 ⟨e1, y⟩ hi => by
    subst e1
    obtain ⟨P, h1, h2⟩ := al.get (y vs (SqT.ext hs (s1.trans s2)))
    exact ⟨G2, P, .rfl, h1, P.m s1 h2⟩⟩⟩
def rngP (lo : Int) (n : Nat) : List Pr := (List.range n).map fun (i : Nat) => rInt (lo + ((i : Nat) : Int))
theorem rngP_len (lo : Int) (n : Nat) : (rngP lo n).length = n := by unfold rngP; rw [List.length_map, List.length_range]
theorem rngP_get {lo : Int} {n i : Nat} (h : i < n) : (rngP lo n)[i]? = some (rInt (lo + (i : Int))) := by
  unfold rngP
  rw [List.getElem?_map, List.getElem?_range h]
  rfl
theorem wk_rng {lo : Int} {n : Nat} (hz : n ≤ sizeLine) : Wk (Itr lo n) G (rngP lo n) where
  z := by rw [rngP_len]; exact hz
  go := fun G H i _ _ hi => by rw [rngP_len] at hi; exact hi
  stop := fun G H _ _ => by rw [rngP_len]; exact Nat.le_refl _
  yld := fun G H i x H' _ _ ⟨e1, e2⟩ hi => by
    subst e1; subst e2
    rw [rngP_len] at hi
    exact ⟨G, _, .rfl, rngP_get hi, rfl⟩
theorem ei_rng1 {ta : TA} {n : Int} (h : EvA s r ta [rInt n] r1) (hn : n.toNat ≤ sizeLine) (h0 : -(2 ^ 62) ≤ n := by omega) : EvI s r (iRng1 ta) (rngP 0 n.toNat) r1 := fun e G H σ m l R q => h e G H σ m l _ fun vs G1 H1 m1 g1 al => by
  cases al with
  | cons a t =>
    cases t
    have hs : sizeLine = 16777216 := sizeLine_eq
    exact ⟨n, by rw [show _ = V.int n from a], h0, by omega, q _ G1 H1 m1 g1 (wk_rng hn)⟩
theorem ei_rng2 {ta : TA} {lo n : Int} (h : EvA s r ta [rInt lo, rInt n] r1) (hn : (n - lo).toNat ≤ sizeLine) (hb : -(2 ^ 62) ≤ lo ∧ lo < 2 ^ 62 ∧ -(2 ^ 62) ≤ n ∧ n < 2 ^ 62) : EvI s r (iRng2 ta) (rngP lo (n - lo).toNat) r1 := fun e G H σ m l R q => h e G H σ m l _ fun vs G1 H1 m1 g1 al => by
  cases al with
  | cons a t =>
    cases t with
    | cons b t =>
      cases t
      exact ⟨lo, n, by rw [show _ = V.int lo from a, show _ = V.int n from b], hb, q _ G1 H1 m1 g1 (wk_rng hn)⟩
def enumP (K : PySem.W.Frag) (Ps : List Pr) : List Pr := Ps.zipIdx.map fun x => rTs K [rInt (x.2 : Int), x.1]
theorem enumP_get {Ps : List Pr} {i : Nat} {P : Pr} (h : Ps[i]? = some P) : (enumP K Ps)[i]? = some (rTs K [rInt (i : Int), P]) := by
  unfold enumP
  rw [List.getElem?_map, List.getElem?_zipIdx, h]
  simp
theorem enumP_len {Ps : List Pr} : (enumP K Ps).length = Ps.length := by unfold enumP; rw [List.length_map, List.length_zipIdx]
theorem ei_enum {ta : TA} {Ps : List Pr} (h : EvA s r ta [rLs K Ps] r1) : EvI s r (iEnum K ta) (enumP K Ps) r1 := fun e G H σ m l R q => h e G H σ m l _ fun vs G1 H1 m1 g1 al => by
  cases al with
  | cons av t =>
    cases t
    obtain ⟨z, a, vs, ev, hs, al⟩ := av
    subst ev
    refine ⟨a, vs, rfl, m1.sub.seq hs, q _ G1 H1 m1 g1 ⟨by rw [enumP_len]; exact z, fun G2 H2 i s1 s2 hi => ?_, fun G2 H2 s1 s2 => ?_, fun G2 H2 i x H3 s1 s2 y hi => ?_⟩⟩
    · rw [enumP_len] at hi
      exact ⟨vs, vs[i]'(by rw [al.len]; exact hi), (s1.trans s2).seq hs, List.getElem?_eq_getElem _⟩
    · rw [enumP_len]
      exact ⟨vs, (s1.trans s2).seq hs, by rw [al.len]; exact Nat.le_refl _⟩
    · obtain ⟨T, x2, e1, hT, e3, y⟩ := y
      subst e1; subst e3
      obtain ⟨P, h1, h2⟩ := al.get (y vs ((s1.trans s2).seq hs))
      have gT : G2 T = none := s2.free hT
      exact ⟨upd G2 T (.tup [.int (i : Nat), x2]), _, ⟨same_new gT, fun e r h => h.new hT⟩, enumP_get h1, (by show 2 ≤ sizeLine; decide), T, _, rfl, SqT.of upd_same, .cons rfl (.cons (P.m (s1.trans (same_new gT)) h2) .nil)⟩
/-! ### for, by an invariant -/
theorem ok_for {wi : TI} {Ps : List Pr} (hi : EvI s r wi Ps r1) (inv : Nat → Sls → Rs → Prop) (h0 : inv 0 s r1)
    (ht : Ps.length ≤ sizeLine → ∀ i P s' r', Ps[i]? = some P → inv i s' r' → ∃ s2 vs, Bg tg P s' s2 vs ∧ Ok e s2 r' ts { po with nx := inv (i + 1), ct := inv (i + 1), bk := po.nx })
    (hd : ∀ s' r', inv Ps.length s' r' → po.nx s' r') : Ok e s r (tFor wi tg ts) po := fun G H σ m l D d => hi e G H σ m l _ fun J G1 H1 m1 g1 wk => by
  refine ⟨fun i k σ H => k = Ps.length - i ∧ i ≤ Ps.length ∧ ∃ s' r' G, inv i s' r' ∧ Mv e G H r' ∧ Same G1 G ∧ SlOk G σ s', ⟨_, rfl, Nat.zero_le _, s, r1, G1, h0, m1, Same.refl _, l.mono g1⟩, ?_⟩
  rintro i k σ2 H2 ⟨rfl, hle, s', r', G2, iv, m2, sg, l2⟩
  by_cases hlt : i < Ps.length
  · refine .inr ⟨wk.go G2 H2 i sg m2.sub hlt, fun σ' H' => ∃ s' r' G, inv (i + 1) s' r' ∧ Mv e G H' r' ∧ Same G1 G ∧ SlOk G σ' s', fun σ' H' w => ⟨_, by omega, rfl, hlt, w⟩, fun x H3 y => ?_⟩
    obtain ⟨G3, P, ⟨gg, pu⟩, hP, px⟩ := wk.yld G2 H2 i x H3 sg m2.sub y hlt
    obtain ⟨s2, vs, bg, ok⟩ := ht wk.z i P s' r' hP iv
    have m3 := pu e r' m2
    refine bg G3 H3 σ2 x px m3.sub (l2.mono gg) _ fun σ3 l3 _ _ => ok G3 H3 σ3 m3 l3 _ ⟨fun s r G4 σ H a b c f => ⟨s, r, G4, a, b, sg.trans (gg.trans c), f⟩, fun R r G4 v H a b c => d.rt R r G4 v H a b (g1.trans (sg.trans (gg.trans c))), fun s r G4 σ H a b c f => d.nx s r G4 σ H a b (g1.trans (sg.trans (gg.trans c))) f, fun s r G4 σ H a b c f => ⟨s, r, G4, a, b, sg.trans (gg.trans c), f⟩⟩
  · have e1 : i = Ps.length := by omega
    subst e1
    exact .inl ⟨wk.stop G2 H2 sg m2.sub, d.nx _ _ _ _ _ (hd _ _ iv) m2 (g1.trans sg) l2⟩
/-- while, by an invariant with a measure -/
theorem ok_while {c : TT} (inv : Nat → Sls → Rs → Prop) (m0 : Nat) (h0 : inv m0 s r)
    (ht : ∀ k s' r', inv k s' r' → ∃ b r2, EvT s' r' c b r2 ∧ (b = true → Ok e s' r2 ts { po with nx := fun s r => ∃ k', k' < k ∧ inv k' s r, ct := fun s r => ∃ k', k' < k ∧ inv k' s r, bk := po.nx }) ∧ (b = false → po.nx s' r2)) : Ok e s r (tWhile c ts) po := fun G H σ m l D d => by
  refine ⟨fun k σ H => ∃ s' r' G2, inv k s' r' ∧ Mv e G2 H r' ∧ Same G G2 ∧ SlOk G2 σ s', ⟨m0, s, r, G, h0, m, Same.refl _, l⟩, ?_⟩
  rintro k σ2 H2 ⟨s', r', G2, iv, m2, sg, l2⟩
  obtain ⟨b, r2, hc, h1, h2⟩ := ht k s' r' iv
  refine hc e G2 H2 σ2 m2 l2 _ fun G3 H3 m3 g3 => ?_
  cases b with
  | true =>
    refine iteT ⟨fun σ H => ∃ k', k' < k ∧ ∃ s' r' G2, inv k' s' r' ∧ Mv e G2 H r' ∧ Same G G2 ∧ SlOk G2 σ s', fun σ' H' ⟨k', a, b⟩ => ⟨k', a, b⟩, h1 rfl G3 H3 σ2 m3 (l2.mono g3) _ ⟨fun s r G4 σ H ⟨k', a, a2⟩ b c f => ⟨k', a, s, r, G4, a2, b, sg.trans (g3.trans c), f⟩, fun R r G4 v H a b c => d.rt R r G4 v H a b (sg.trans (g3.trans c)), fun s r G4 σ H a b c f => d.nx s r G4 σ H a b (sg.trans (g3.trans c)) f, fun s r G4 σ H ⟨k', a, a2⟩ b c f => ⟨k', a, s, r, G4, a2, b, sg.trans (g3.trans c), f⟩⟩⟩
  | false => exact iteF (d.nx _ _ _ _ _ (h2 rfl) m3 (sg.trans g3) (l2.mono g3))
/-! ### comprehensions -/
theorem wipe_out (τ : L2.St) (i : Nat) : ∀ (vs : List Nat), i ∉ vs → (wipe τ vs)[i]? = τ[i]?
  | [], _ => rfl
  | v :: vs, hm => by
    rw [List.mem_cons, not_or] at hm
    unfold wipe
    rw [List.getElem?_set_ne (fun z => hm.1 z.symm)]
    exact wipe_out τ i vs hm.2
theorem wipe_eq {σ σ' : L2.St} {vs : List Nat} (hl : σ'.length = σ.length) (h : ∀ i, i ∉ vs → σ'[i]? = σ[i]?) : wipe σ' vs = wipe σ vs := by
  refine List.ext_getElem? fun i => ?_
  by_cases hi : i ∈ vs
  · have w : ∀ (τ : L2.St) (vs : List Nat), i ∈ vs → i < τ.length → (wipe τ vs)[i]? = some none := fun τ vs => by
      induction vs with
      | nil => intro h; cases h
      | cons v vs ih =>
        intro hm hlt
        unfold wipe
        by_cases e : v = i
        · subst e
          exact List.getElem?_set_self (by rw [wipe_length]; exact hlt)
        · rw [List.getElem?_set_ne e]
          exact ih (by rcases List.mem_cons.mp hm with z | z; exact absurd z.symm e; exact z) hlt
    by_cases hlt : i < σ.length
    · rw [w σ' vs hi (by rw [hl]; exact hlt), w σ vs hi hlt]
    · rw [List.getElem?_eq_none (by rw [wipe_length, hl]; omega), List.getElem?_eq_none (by rw [wipe_length]; omega)]
  · rw [wipe_out _ _ _ hi, wipe_out _ _ _ hi, h i hi]
theorem ex_lc {wi : TI} {g : TG} {Ps : List Pr} {vs : List Nat} (hi : EvI s r wi Ps r1) (inv : Nat → List Pr → Rs → Prop) (h0 : inv 0 [] r1)
    (ht : Ps.length ≤ sizeLine → ∀ i P acc r', Ps[i]? = some P → inv i acc r' → ∃ s2 ws, Bg g P (wipeS s vs) s2 ws ∧ (∀ w ∈ ws, w ∈ vs) ∧ ∃ b r2, EvT s2 r' tt b r2 ∧ (b = true → ∃ Y r3, Ev s2 r2 te Y r3 ∧ inv (i + 1) (acc ++ [Y]) r3) ∧ (b = false → inv (i + 1) acc r2)) :
    EvX s r (tLc wi g tt te vs) (fun P r' => ∃ acc, inv Ps.length acc r' ∧ P = rLs K acc) := fun e G H σ m l Q q => hi e G H σ m l _ fun J G1 H1 m1 g1 wk => fun Dl hD => by
  refine ⟨fun i k H => k = Ps.length - i ∧ i ≤ Ps.length ∧ ∃ acc r' G, inv i acc r' ∧ acc.length ≤ i ∧ Mv e G H ((Dl, cLs acc) :: r') ∧ Same G1 G, ⟨_, rfl, Nat.zero_le _, [], r1, G1, h0, Nat.zero_le _, m1.own hD ⟨Nat.zero_le _, [], rfl, .nil⟩, Same.refl _⟩, ?_⟩
  rintro i k H2 ⟨rfl, hle, acc, r', G2, iv, hacc, m2, sg⟩
  by_cases hlt : i < Ps.length
  · refine .inr ⟨wk.go G2 H2 i sg m2.sub hlt, fun H' => ∃ acc r' G, inv (i + 1) acc r' ∧ acc.length ≤ i + 1 ∧ Mv e G H' ((Dl, cLs acc) :: r') ∧ Same G1 G, fun H' w => ⟨_, by omega, rfl, hlt, w⟩, fun x H3 y => ?_⟩
    obtain ⟨G3, P, ⟨gg, pu⟩, hP, px⟩ := wk.yld G2 H2 i x H3 sg m2.sub y hlt
    obtain ⟨s2, ws, bg, hws, b, r2, het, hb1, hb2⟩ := ht wk.z i P acc r' hP iv
    have m3 := pu e _ m2
    refine bg G3 H3 (wipe σ vs) x px m3.sub ((l.mono (g1.trans (sg.trans gg))).wipe vs) _ fun σ3 l3 hl3 ag => ⟨wipe_eq (by rw [hl3, wipe_length]) (fun j hj => by rw [ag j (fun z => hj (hws j z)), wipe_out _ _ _ hj]), ?_⟩
    · refine het.front e G3 H3 σ3 m3 l3 _ fun G4 H4 m4 g4 => ?_
      cases b with
      | true =>
        obtain ⟨Y, r3, hev, iv2⟩ := hb1 rfl
        refine iteT (hev.front e G4 H4 σ3 m4 (l3.mono g4) _ fun v G5 H5 m5 g5 pv => ?_)
        obtain ⟨o, ho, ⟨z, vs2, rfl, al⟩⟩ := m5.at_ List.mem_cons_self
        have zl : acc.length < sizeLine := Nat.lt_of_le_of_lt hacc (Nat.lt_of_lt_of_le hlt wk.z)
        exact ⟨vs2, ho, by rw [al.len]; exact zl, acc ++ [Y], r3, G5, iv2, by rw [List.length_append]; exact Nat.succ_le_succ hacc, m5.put ⟨by rw [List.length_append]; exact zl, _, rfl, al.app (.cons pv .nil)⟩, sg.trans (gg.trans (g4.trans g5))⟩
      | false => exact iteF ⟨acc, r2, G4, hb2 rfl, Nat.le_succ_of_le hacc, m4, sg.trans (gg.trans g4)⟩
  · have e1 : i = Ps.length := by omega
    subst e1
    obtain ⟨o, ho, ⟨z, vs2, rfl, al⟩, gn, m5⟩ := m2.freeze
    exact .inl ⟨wk.stop G2 H2 sg m2.sub, q _ _ _ _ _ ⟨acc, iv, rfl⟩ m5 (g1.trans (sg.trans (same_new gn))) ⟨z, Dl, vs2, rfl, SqL.of upd_same, al.mono (same_new gn)⟩⟩
/-- [f(x) for x in xs]: nothing is written -/
theorem ev_lcMap {wi : TI} {g : TG} {Ps : List Pr} {vs : List Nat} (Y : Nat → Pr → Pr) (hi : EvI s r wi Ps r1)
    (ht : Ps.length ≤ sizeLine → ∀ i P, Ps[i]? = some P → ∃ s2 ws, Bg g P (wipeS s vs) s2 ws ∧ (∀ w ∈ ws, w ∈ vs) ∧ Ev s2 r1 te (Y i P) r1) :
    Ev s r (tLc wi g tYes te vs) (rLs K (Ps.zipIdx.map fun x => Y x.2 x.1)) r1 := by
  refine (ex_lc (K := K) hi (fun i acc r' => acc = (Ps.take i).zipIdx.map (fun x => Y x.2 x.1) ∧ r' = r1) ⟨rfl, rfl⟩ fun z i P acc r' hP ⟨ha, hr⟩ => ?_).ev fun P' r'' ⟨acc, ⟨ha, hr⟩, hP⟩ => ⟨by rw [hP, ha, List.take_length], hr⟩
  subst hr
  obtain ⟨s2, ws, bg, hw, hev⟩ := ht z i P hP
  refine ⟨s2, ws, bg, hw, true, r', fun e G H σ m l Q q => q G H m (Same.refl _), fun _ => ⟨Y i P, r', hev, ?_, rfl⟩, fun z => nomatch z⟩
  have hl : i < Ps.length := (List.getElem?_eq_some_iff.mp hP).1
  rw [ha, List.take_add_one, hP, List.zipIdx_append, List.map_append]
  simp [List.length_take, Nat.min_eq_left (Nat.le_of_lt hl)]
end
end FL

namespace FL
open PySem PySem.Spec PyProof.Rows L2 StX
/-! ### promises by data -/
/-- nothing is written that stood -/
def spP (T : List Pr → Pr → Prop) : Sp := fun vs H Q _ => ∃ G Ps P, T Ps P ∧ All2 G vs Ps ∧ Same G H ∧ ∀ v G' H', Mv ⟨G, H, []⟩ G' H' [] → P.p G' v → Q v H'
/-- things may be written -/
abbrev Spec := List Pr → Rs → (Pr → Rs → Prop) → Prop
def spM (S : Spec) : Sp := fun vs H Q _ => ∃ G Ps r Φ, S Ps r Φ ∧ All2 G vs Ps ∧ Mv ⟨G, H, r⟩ G H r ∧ ∀ v G' H' P r', Φ P r' → Mv ⟨G, H, r⟩ G' H' r' → P.p G' v → Q v H'
theorem mv_nil {G H : Hp} (h : Same G H) : Mv ⟨G, H, []⟩ G H [] := ⟨Same.refl _, fun _ _ q _ => q, h, fun _ _ q => .inl q, fun x hx => (nomatch hx), List.nodup_nil⟩
def slots (n : Nat) (Ps : List Pr) : Sls := Ps.map some ++ List.replicate (n - Ps.length) none
theorem sl_start {G : Hp} {N : List Str} {vs : List V} {Ps : List Pr} (h : All2 G vs Ps) : SlOk G (L2.start N vs) (slots N.length Ps) := by
  have hl := h.len
  refine ⟨?_, fun i P e => ?_⟩
  · unfold L2.start slots
    rw [List.length_append, List.length_append, List.length_map, List.length_map, List.length_replicate, List.length_replicate, hl]
  · unfold slots at e
    unfold L2.start
    by_cases hi : i < Ps.length
    · rw [List.getElem?_append_left (by rw [List.length_map]; exact hi), List.getElem?_map] at e
      cases q : Ps[i]? with
      | none => rw [q] at e; cases e
      | some P' =>
        rw [q] at e
        cases e
        obtain ⟨v, hv, pv⟩ := h.get' q
        refine ⟨v, ?_, pv⟩
        rw [List.getElem?_append_left (by rw [List.length_map, hl]; exact hi), List.getElem?_map, hv]
        rfl
    · rw [List.getElem?_append_right (by rw [List.length_map]; omega), List.getElem?_replicate] at e
      split at e
      · cases e
      · cases e
def poP (P : Pr) : Po := { nx := fun _ _ => P = rNon, rt := fun R _ => R = P }
def poM (Φ : Pr → Rs → Prop) : Po := { nx := fun _ r => Φ rNon r, rt := Φ }
theorem run_P {t : TS} {N : List Str} {T : List Pr → Pr → Prop} {vs : List V} {H : Hp} {Q : VK} {E : XK} (h : spP T vs H Q E) (k : ∀ Ps P, T Ps P → ∀ e, Ok e (slots N.length Ps) [] t (poP P)) : t { nx := fun _ H' => Q .non H', rt := Q } (L2.start N vs) H := by
  obtain ⟨G, Ps, P, hT, al, sm, q⟩ := h
  refine k Ps P hT ⟨G, H, []⟩ G H _ (mv_nil sm) (sl_start al) _ ⟨fun s r G' σ H' a m _ _ => ?_, fun R r G' v H' a m _ pv => ?_, fun s r G' σ H' a m _ _ => a.elim, fun s r G' σ H' a m _ _ => a.elim⟩
  · have a : P = rNon := a
    subst a
    exact q _ _ _ m.nil rfl
  · have a : R = P := a
    subst a
    exact q _ _ _ m.nil pv
theorem run_M {t : TS} {N : List Str} {S : Spec} {vs : List V} {H : Hp} {Q : VK} {E : XK} (h : spM S vs H Q E) (k : ∀ Ps r Φ, S Ps r Φ → ∀ e, Ok e (slots N.length Ps) r t (poM Φ)) : t { nx := fun _ H' => Q .non H', rt := Q } (L2.start N vs) H := by
  obtain ⟨G, Ps, r, Φ, hS, al, mv, q⟩ := h
  exact k Ps r Φ hS ⟨G, H, r⟩ G H _ mv (sl_start al) _ ⟨fun s r' G' σ H' a m _ _ => q _ _ _ _ _ a m rfl, fun R r' G' v H' a m _ pv => q _ _ _ _ _ a m pv, fun s r G' σ H' a m _ _ => a.elim, fun s r G' σ H' a m _ _ => a.elim⟩
theorem len_P {T : List Pr → Pr → Prop} {vs : List V} {H : Hp} {Q : VK} {E : XK} {n : Nat} (h : spP T vs H Q E) (k : ∀ Ps P, T Ps P → Ps.length = n) : vs.length = n := by
  obtain ⟨G, Ps, P, hT, al, _⟩ := h
  rw [al.len, k _ _ hT]
theorem len_M {S : Spec} {vs : List V} {H : Hp} {Q : VK} {E : XK} {n : Nat} (h : spM S vs H Q E) (k : ∀ Ps r Φ, S Ps r Φ → Ps.length = n) : vs.length = n := by
  obtain ⟨G, Ps, r, Φ, hS, al, _⟩ := h
  rw [al.len, k _ _ _ hS]
/-! ### defs, methods, classes as they may be called -/
structure CalF (P : Program) (w : World) (K : PySem.W.Frag) (mg : Str → Option Value) (base : Heap) (CX : CXT) (k : Nat) (x : Str) (ps : List Str) (sp : Sp) : Prop where
  ex : ∃ f fd, FnOk P w K mg base CX k f fd ps sp ∧ mg x = some (.ref f) ∧ PySem.W.keepIn K (.ref f) = true ∧ Binds K fd ps []
structure CalM (P : Program) (w : World) (K : PySem.W.Frag) (mg : Str → Option Value) (base : Heap) (CX : CXT) (C : Addr) (k : Nat) (m : Str) (ps : List Str) (sp : Sp) : Prop where
  ex : ∃ f fd, FnOk P w K mg base CX k f fd ps sp ∧ Cls K C ∧ Meth K C m f ∧ Binds K fd ps []
structure CalI (P : Program) (w : World) (K : PySem.W.Frag) (mg : Str → Option Value) (base : Heap) (CX : CXT) (C : Addr) (k : Nat) (x : Str) (ps : List Str) (sp : Sp) : Prop where
  ex : ∃ f fd, FnOk P w K mg base CX k f fd ps sp ∧ Mk K C f ∧ mg x = some (.ref C) ∧ Binds K fd ps []
/-- a property -/
structure CalP (P : Program) (w : World) (K : PySem.W.Frag) (mg : Str → Option Value) (base : Heap) (CX : CXT) (C : Addr) (k : Nat) (m : Str) (sp : Sp) : Prop where
  ex : ∃ f fd p, FnOk P w K mg base CX k f fd ["self"] sp ∧ Cls K C ∧ PropOf K C m p f ∧ Binds K fd ["self"] []
section
variable {X : Cx} {k m : Nat} {ps : List Str} {sp : Sp} {x : Str} {p pos apos : Pos} {e o : Expr} {es : List Expr} {t : TA} {CX : CXT} {E : XK} {C : Addr} {ta : TE} {nm : Str}
theorem pe_cF (D : CalF X.prog X.w X.K X.mg X.base CX k x ps sp) (hx : Passes CX X E) (hr : Room m X.A) (hg : Gl X x) (ha : PA X (e :: es) t) (hk : k ≤ m := by decide) (hdb : (x == ("__debug__" : Str)) = false := by decide)
    (he : starEach (e :: es) X.env = (false, eval e X.env) :: starEach es X.env := by rfl) (hpl : (backTo pos (starEach es X.env)).any (·.1) = false := by rfl) : PE X (.Call (.Name x p) (e :: es) [] pos) (tCall sp [] E t) := by
  obtain ⟨f, fd, h1, h2, h3, h4⟩ := D.ex
  exact pe_call h1 (hr.mono hk) hg h2 h3 h4 .nil hx ha hdb he hpl
theorem pe_cF0 (D : CalF X.prog X.w X.K X.mg X.base CX k x ps sp) (hx : Passes CX X E) (hr : Room m X.A) (hg : Gl X x) (hk : k ≤ m := by decide) (hdb : (x == ("__debug__" : Str)) = false := by decide) : PE X (.Call (.Name x p) [] [] pos) (tCall sp [] E tNil) := by
  obtain ⟨f, fd, h1, h2, h3, h4⟩ := D.ex
  exact pe_call0 h1 (hr.mono hk) hg h2 h3 h4 .nil hx hdb
theorem pe_cM {pl : Sem Bool} (D : CalM X.prog X.w X.K X.mg X.base CX C k nm ps sp) (hx : Passes CX X E) (hr : Room m X.A) (ho : PE X o ta) (ha : PA X (e :: es) t) (hk : k ≤ m := by decide)
    (hst : starEach (e :: es) X.env = (false, eval e X.env) :: starEach es X.env := by rfl) (hpl : (backTo pos (starEach es X.env)).any (·.1) = false := by rfl)
    (ht : eval (.Call (.Attribute o nm apos) (e :: es) [] pos) X.env = (do
      let ov ← eval o X.env
      standAt apos.atName
      let (f, first) ← holding [ov] (getMethod ov nm pl)
      callWith pos f first (backTo pos (starEach (e :: es) X.env)) (backToKw pos (keywordEach [] X.env))) := by rfl) :
    PE X (.Call (.Attribute o nm apos) (e :: es) [] pos) (tMeth C nm sp [] E ta t) := by
  obtain ⟨f, fd, h1, h2, h3, h4⟩ := D.ex
  exact pe_meth ho h2 h3 h1 (hr.mono hk) h4 .nil hx ha hst hpl ht
theorem pe_cM0 {pl : Sem Bool} (D : CalM X.prog X.w X.K X.mg X.base CX C k nm ps sp) (hx : Passes CX X E) (hr : Room m X.A) (ho : PE X o ta) (hk : k ≤ m := by decide)
    (ht : eval (.Call (.Attribute o nm apos) [] [] pos) X.env = (do
      let ov ← eval o X.env
      standAt apos.atName
      let (f, first) ← holding [ov] (getMethod ov nm pl)
      callWith pos f first (backTo pos (starEach [] X.env)) (backToKw pos (keywordEach [] X.env))) := by rfl) :
    PE X (.Call (.Attribute o nm apos) [] [] pos) (tMeth C nm sp [] E ta tNil) := by
  obtain ⟨f, fd, h1, h2, h3, h4⟩ := D.ex
  exact pe_meth0 ho h2 h3 h1 (hr.mono hk) h4 .nil hx ht
theorem pe_cI (D : CalI X.prog X.w X.K X.mg X.base CX C k x ps sp) (hx : Passes CX X E) (hr : Room m X.A) (hg : Gl X x) (ha : PA X (e :: es) t) (hk : k + 1 ≤ m := by decide) (hdb : (x == ("__debug__" : Str)) = false := by decide)
    (he : starEach (e :: es) X.env = (false, eval e X.env) :: starEach es X.env := by rfl) (hpl : (backTo pos (starEach es X.env)).any (·.1) = false := by rfl) : PE X (.Call (.Name x p) (e :: es) [] pos) (tMake C sp [] E t) := by
  obtain ⟨f, fd, h1, h2, h3, h4⟩ := D.ex
  exact pe_make h2 h1 (hr.mono hk) hg h3 h4 .nil hx ha hdb he hpl
theorem pe_cP (D : CalP X.prog X.w X.K X.mg X.base CX C k nm sp) (hx : Passes CX X.nox E) (hr : Room m X.A) (ho : PE X o ta) (hk : k + 1 ≤ m := by decide) (hab : attributeBase o nm X.env (eval o X.env) = eval o X.env := by rfl) : PE X (.Attribute o nm pos) (tProp C sp [] E ta) := by
  obtain ⟨f, fd, p, h1, h2, h3, h4⟩ := D.ex
  exact pe_prop ho h2 h3 h1 (hr.mono hk) h4 .nil hx hab
end
/-! ### calls, by data -/
section
variable {s s' s1 s2 : Sls} {r r' r1 r2 r3 rc rest pre post : Rs} {ta tb te tv : TE} {t : TA} {P Q R : Pr} {K : PySem.W.Frag} {Φ : Pr → Rs → Prop} {T : List Pr → Pr → Prop} {S : Spec} {Ps Qs : List Pr} {E : XK} {C a : Addr} {ns : List Str} {nm f : Str} {e : Ent} {po : Po}
theorem mv_selfnil {e : Ent} {G H : Hp} {r : Rs} (m : Mv e G H r) : Mv e G H ([] ++ r) := m
theorem ev_call (h : EvA s r t Ps r1) (hT : T Ps P) : Ev s r (tCall (spP T) [] E t) P r1 := fun e G H σ m l W w => h e G H σ m l _ fun vs G1 H1 m1 g1 al => by
  show spP T (vs ++ []) H1 W E
  rw [List.append_nil]
  exact ⟨G1, Ps, P, hT, al, m1.sub, fun v G2 H2 m2 pv => w v G2 H2 (Mv.trans (rc := []) m1 m2) (g1.trans m2.gg) pv⟩
theorem ex_call (h : EvA s r t Ps (rc ++ rest)) (hS : S Ps rc Φ) : EvX s r (tCall (spM S) [] E t) (fun P r' => ∃ r1, Φ P r1 ∧ r' = r1 ++ rest) := fun e G H σ m l W w => h e G H σ m l _ fun vs G1 H1 m1 g1 al => by
  show spM S (vs ++ []) H1 W E
  rw [List.append_nil]
  exact ⟨G1, Ps, rc, Φ, hS, al, m1.drop.self, fun v G2 H2 P r' f m2 pv => w v G2 H2 P _ ⟨r', f, rfl⟩ (m1.trans m2) (g1.trans m2.gg) pv⟩
/-- o.m(..), o frozen -/
theorem ev_meth (h0 : Ev s r ta (rOb C ns Qs) r1) (hm : look ns nm = none) (h : EvA s r1 t Ps r2) (hT : T (rOb C ns Qs :: Ps) P) : Ev s r (tMeth C nm (spP T) [] E ta t) P r2 := fun e G H σ m l W w => h0 e G H σ m l _ fun x G1 H1 m1 g1 px => by
  have px0 := px
  obtain ⟨a, dx, vs, ev, ho, z, al⟩ := px
  refine ⟨a, dx, _, ev, m1.sub _ _ ho, look_no hm, h e G1 H1 σ m1 (l.mono g1) _ fun us G2 H2 m2 g2 al2 => ?_⟩
  show spP T (x :: (us ++ [])) H2 W E
  rw [List.append_nil]
  exact ⟨G2, _, P, hT, .cons (Pr.m _ g2 px0) al2, m2.sub, fun v G3 H3 m3 pv => w v G3 H3 (Mv.trans (rc := []) m2 m3) (g1.trans (g2.trans m3.gg)) pv⟩
/-- o.m(..), o may be written -/
theorem ex_meth (h0 : Ev s r ta (rAt a) r1) (hi : (a, cOb C ns Qs) ∈ r1) (hm : look ns nm = none) (h : EvA s r1 t Ps (rc ++ rest)) (hS : S (rAt a :: Ps) rc Φ) : EvX s r (tMeth C nm (spM S) [] E ta t) (fun P r' => ∃ r1, Φ P r1 ∧ r' = r1 ++ rest) := fun e G H σ m l W w => h0 e G H σ m l _ fun x G1 H1 m1 g1 px => by
  obtain ⟨o, ho, ⟨dx, vs, rfl, z, al⟩⟩ := m1.at_ hi
  refine ⟨a, dx, _, px, ho, look_no hm, h e G1 H1 σ m1 (l.mono g1) _ fun us G2 H2 m2 g2 al2 => ?_⟩
  show spM S (x :: (us ++ [])) H2 W E
  rw [List.append_nil]
  exact ⟨G2, _, rc, Φ, hS, .cons px al2, m2.drop.self, fun v G3 H3 P r' f m3 pv => w v G3 H3 P _ ⟨r', f, rfl⟩ (m2.trans m3) (g1.trans (g2.trans m3.gg)) pv⟩
/-- o.p, a property; o frozen -/
theorem ev_prop (h0 : Ev s r ta (rOb C ns Qs) r1) (hT : T [rOb C ns Qs] P) : Ev s r (tProp C (spP T) [] E ta) P r1 := fun e G H σ m l W w => h0 e G H σ m l _ fun x G1 H1 m1 g1 px => by
  have px0 := px
  obtain ⟨a, dx, vs, ev, ho, z, al⟩ := px
  subst ev
  exact ⟨a, dx, _, rfl, m1.sub _ _ ho, G1, _, P, hT, .cons px0 .nil, m1.sub, fun v G3 H3 m3 pv => w v G3 H3 (Mv.trans (rc := []) m1 m3) (g1.trans m3.gg) pv⟩
theorem ex_prop (h0 : Ev s r ta (rAt a) (rc ++ rest)) (hi : (a, cOb C ns Qs) ∈ rc ++ rest) (hS : S [rAt a] rc Φ) : EvX s r (tProp C (spM S) [] E ta) (fun P r' => ∃ r1, Φ P r1 ∧ r' = r1 ++ rest) := fun e G H σ m l W w => h0 e G H σ m l _ fun x G1 H1 m1 g1 px => by
  obtain ⟨o, ho, ⟨dx, vs, rfl, z, al⟩⟩ := m1.at_ hi
  subst px
  exact ⟨a, dx, _, rfl, ho, G1, _, rc, Φ, hS, .cons rfl .nil, m1.drop.self, fun v G3 H3 P r' f m3 pv => w v G3 H3 P _ ⟨r', f, rfl⟩ (m1.trans m3) (g1.trans m3.gg) pv⟩
/-- C(..): __init__ writes the new instance -/
theorem ex_make {Φ : Addr → Pr → Rs → Prop} (h : EvA s r t Ps (rc ++ rest)) (hS : ∀ x, S (rAt x :: Ps) ((x, cOb C [] []) :: rc) (Φ x)) (hn : ∀ x P r', Φ x P r' → P = rNon) : EvX s r (tMake C (spM S) [] E t) (fun P r' => ∃ x r1, P = rAt x ∧ Φ x rNon r1 ∧ r' = r1 ++ rest) := fun e G H σ m l W w => h e G H σ m l _ fun vs G1 H1 m1 g1 al => by
  intro x dx hx hdx ne
  show spM S (.ref x :: (vs ++ [])) _ _ E
  rw [List.append_nil]
  have m2 := m1.hid (o := .own x) hdx
  have hx2 : (upd H1 dx (.own x)) x = none := by rw [upd_ne (Ne.symm ne)]; exact hx
  have m3 := m2.own (o := .ins C dx []) (C := cOb C [] []) hx2 ⟨dx, [], rfl, rfl, .nil⟩
  have m4 : Mv e G1 (upd (upd H1 dx (.own x)) x (.ins C dx [])) (((x, cOb C [] []) :: rc) ++ rest) := m3
  exact ⟨G1, _, _, Φ x, hS x, .cons rfl al, m4.drop.self, fun v G3 H3 P r' f m5 pv => by
    have := hn x P r' f
    subst this
    exact ⟨pv, w (.ref x) G3 H3 (rAt x) _ ⟨x, r', rfl, f, rfl⟩ (m4.trans m5) (g1.trans m5.gg) rfl⟩⟩
/-- o.f = e, a new attribute; one that is there -/
theorem ok_fldN (hv : Ev s r tv P r1) (ho : Ev s r1 ta (rAt a) (pre ++ (a, cOb C ns Qs) :: post)) (hc : Cls K C) (hn : NoAttr K C f) (hl : look ns f = none) (hz : ns.length < 1000) (k : po.nx s (pre ++ (a, cOb C (ns ++ [f]) (Qs ++ [P])) :: post)) :
    Ok e s r (sFld K ta tv f) po := fun G H σ m l D d => hv e G H σ m l _ fun y G1 H1 m1 g1 py => ho e G1 H1 σ m1 (l.mono g1) _ fun x G2 H2 m2 g2 px => by
  obtain ⟨o, ho, ⟨dx, vs, rfl, z, al⟩⟩ := m2.at_ (List.mem_append_right _ List.mem_cons_self)
  refine ⟨a, C, dx, _, px, ho, hc, hn, by rw [List.length_zip]; omega, ?_⟩
  rw [put_no hl z]
  exact d.nx _ _ _ _ _ k (m2.putAt ⟨dx, _, rfl, by rw [List.length_append, List.length_append, z]; rfl, al.app (.cons (P.m g2 py) .nil)⟩) (g1.trans g2) (l.mono (g1.trans g2))
theorem All2.set {G : Hp} {v : V} {P : Pr} (hv : P.p G v) : ∀ {vs : List V} {Ps : List Pr} (i : Nat), All2 G vs Ps → All2 G (vs.set i v) (Ps.set i P)
  | _, _, _, .nil => .nil
  | _, _, 0, .cons a t => .cons hv t
  | _, _, i + 1, .cons a t => .cons a (All2.set hv i t)
theorem ok_fld (i : Nat) (hv : Ev s r tv P r1) (ho : Ev s r1 ta (rAt a) (pre ++ (a, cOb C ns Qs) :: post)) (hc : Cls K C) (hn : NoAttr K C f) (hl : look ns f = some i) (hz : ns.length < 1000) (k : po.nx s (pre ++ (a, cOb C ns (Qs.set i P)) :: post)) :
    Ok e s r (sFld K ta tv f) po := fun G H σ m l D d => hv e G H σ m l _ fun y G1 H1 m1 g1 py => ho e G1 H1 σ m1 (l.mono g1) _ fun x G2 H2 m2 g2 px => by
  obtain ⟨o, ho, ⟨dx, vs, rfl, z, al⟩⟩ := m2.at_ (List.mem_append_right _ List.mem_cons_self)
  refine ⟨a, C, dx, _, px, ho, hc, hn, by rw [List.length_zip]; omega, ?_⟩
  rw [put_at hl z]
  exact d.nx _ _ _ _ _ k (m2.putAt ⟨dx, _, rfl, by rw [List.length_set]; exact z, al.set (P.m g2 py) i⟩) (g1.trans g2) (l.mono (g1.trans g2))
/-- o.f += e, whole numbers -/
theorem ok_fldAug {rd : V → V → Hp → VK → Prop} {fn : Int → Int → Int} {x y : Int} (i : Nat) (ho : Ev s r ta (rAt a) r1) (hi : (a, cOb C ns Qs) ∈ r1) (hv : Ev s r1 tv (rInt y) (pre ++ (a, cOb C ns Qs) :: post)) (hc : Cls K C) (hn : NoAttr K C f) (hl : look ns f = some i) (hz : ns.length < 1000) (hx : Qs[i]? = some (rInt x))
    (hrd : rd = fun x y H Q => ∃ i j, x = .int i ∧ y = .int j ∧ Q (.int (fn i j)) H) (k : po.nx s (pre ++ (a, cOb C ns (Qs.set i (rInt (fn x y)))) :: post)) : Ok e s r (sFldAug K ta tv rd f) po := fun G H σ m l D d => ho e G H σ m l _ fun v G1 H1 m1 g1 pv => by
  obtain ⟨o, hO, ⟨dx, vs, rfl, z, al⟩⟩ := m1.at_ hi
  obtain ⟨w, lw, pw⟩ := al.get' hx
  refine ⟨a, C, dx, _, w, pv, hO, hc, hn, look_at hl lw, hv e G1 H1 σ m1 (l.mono g1) _ fun u G2 H2 m2 g2 pu => ?_⟩
  subst hrd
  obtain ⟨o2, hO2, ⟨dx2, vs2, rfl, z2, al2⟩⟩ := m2.at_ (List.mem_append_right _ List.mem_cons_self)
  refine ⟨x, y, pw, pu, dx2, _, hO2, by rw [List.length_zip]; omega, ?_⟩
  rw [put_at hl z2]
  exact d.nx _ _ _ _ _ k (m2.putAt ⟨dx2, _, rfl, by rw [List.length_set]; exact z2, All2.set rfl i al2⟩) (g1.trans g2) (l.mono (g1.trans g2))
end
end FL

namespace FL
open PySem PySem.Spec PyProof.Rows L2 StX
/-! ### freezing a dict -/
/-- e, a dict that is written by nobody from here on -/
def tFrz (t : TE) : TE := fun σ H Q => t σ H fun v H1 => ∃ d u, v = .ref d ∧ H1 d = some u ∧ Mut (some u) ∧ ∀ od, Q v (upd H1 d (.frz od u))
theorem pe_frz {X : Cx} {e : Expr} {t : TE} (h : PE X e t) : PE X e (tFrz t) := by
  refine ⟨fun pins s σ H Q I hw => ?_⟩
  refine thn (h.run pins s σ H _ I hw) fun v s1 ⟨x, H1, I1, r, d, u, ex, hd, mu, q⟩ => ?_
  obtain ⟨od, I2⟩ := I1.lock hd mu
  exact ⟨x, _, I2, r, q od⟩
/-- a thing may be frozen otherwise than it stands -/
theorem Mv.freezeD {e : Ent} {G H : Hp} {r : Rs} {p : Addr} {C : Co} {o' : HO} (h : Mv e G H ((p, C) :: r)) : Mv e (upd G p o') (upd H p o') r := by
  have nd := List.nodup_cons.mp h.nd
  obtain ⟨o, a0, b0, c0, d0⟩ := h.rs _ List.mem_cons_self
  have nr : ∀ x ∈ r, x.1 ≠ p := fun x hx z => nd.1 (by have q := mem_dom hx; rw [z] at q; exact q)
  refine ⟨fun a u q => ?_, fun a u q hn => ?_, fun a u q => ?_, fun a u q => ?_, fun x hx => ?_, nd.2⟩
  · have := h.gg a u q
    rw [upd_ne (ne_of_none this c0)]; exact this
  · have ne : a ≠ p := fun z => by
      subst z
      rcases d0 with d | d
      · exact hn d
      · rw [q] at d; cases d
    rw [upd_ne ne]; exact h.hh a u q hn
  · by_cases ha : a = p
    · subst ha; rw [upd_same] at q ⊢; exact q
    · rw [upd_ne ha] at q ⊢; exact h.sub a u q
  · by_cases ha : a = p
    · subst ha
      rcases d0 with d | d
      · exact .inr (.inr d)
      · exact .inr (.inl d)
    · rw [upd_ne ha] at q; exact h.nw a u q
  · obtain ⟨u, a, b, c, d⟩ := h.rs x (List.mem_cons_of_mem _ hx)
    exact ⟨u, by rw [upd_ne (nr x hx)]; exact a, x.2.m (same_new c0) b, by rw [upd_ne (nr x hx)]; exact c, d⟩
section
variable {s s' s1 s2 : Sls} {r r' r1 r2 r3 rc rest pre post : Rs} {ta tb te tv td : TE} {t : TA} {P Q R : Pr} {K : PySem.W.Frag} {Φ : Pr → Rs → Prop} {Ps Qs : List Pr} {e : Ent} {po : Po} {i j : Int} {b b' : Bool} {z z' : Str} {tt : TT}
theorem ev_frD {a : Addr} {kvs : List (Key × Pr)} (h : Ev s r te (rAt a) (pre ++ (a, cDk kvs) :: post)) : Ev s r (tFrz te) (rDk kvs) (pre ++ post) := fun e G H σ m k Q q => h e G H σ m k _ fun v G' H' m' g p => by
  have m2 := m'.perm List.perm_middle
  obtain ⟨o, ho, ⟨hz, vs, rfl, al⟩⟩ := m2.at_ List.mem_cons_self
  obtain ⟨_, _, _, gn, _⟩ := m2.rs _ List.mem_cons_self
  exact ⟨a, _, p, ho, True.intro, fun od => q v _ _ m2.freezeD (g.trans (same_new gn)) ⟨hz, a, od, vs, p, upd_same, al.mono (same_new gn)⟩⟩
theorem ev_frT {a : Addr} {kvs : List (List Key × Pr)} (h : Ev s r te (rAt a) (pre ++ (a, cDt kvs) :: post)) : Ev s r (tFrz te) (rDt kvs) (pre ++ post) := fun e G H σ m k Q q => h e G H σ m k _ fun v G' H' m' g p => by
  have m2 := m'.perm List.perm_middle
  obtain ⟨o, ho, ⟨hz, vs, rfl, al⟩⟩ := m2.at_ List.mem_cons_self
  obtain ⟨_, _, _, gn, _⟩ := m2.rs _ List.mem_cons_self
  exact ⟨a, _, p, ho, True.intro, fun od => q v _ _ m2.freezeD (g.trans (same_new gn)) ⟨hz, a, od, vs, p, upd_same, al.mono (same_new gn)⟩⟩
/-! ### whole numbers -/
theorem ev_add (ha : Ev s r ta (rInt i) r1) (hb : Ev s r1 tb (rInt j) r2) : Ev s r (tOp (rI0 fun i j => .int (i + j)) ta tb) (rInt (i + j)) r2 := ev_op0 ha hb rfl fun _ => rfl
theorem ev_sub (ha : Ev s r ta (rInt i) r1) (hb : Ev s r1 tb (rInt j) r2) : Ev s r (tOp (rI0 fun i j => .int (i - j)) ta tb) (rInt (i - j)) r2 := ev_op0 ha hb rfl fun _ => rfl
theorem ev_and (ha : Ev s r ta (rInt i) r1) (hb : Ev s r1 tb (rInt j) r2) : Ev s r (tOp (rI0 fun i j => .int (Builtin.bitAnd i j)) ta tb) (rInt (Builtin.bitAnd i j)) r2 := ev_op0 ha hb rfl fun _ => rfl
theorem ev_or (ha : Ev s r ta (rInt i) r1) (hb : Ev s r1 tb (rInt j) r2) : Ev s r (tOp (rI0 fun i j => .int (Builtin.bitOr i j)) ta tb) (rInt (Builtin.bitOr i j)) r2 := ev_op0 ha hb rfl fun _ => rfl
theorem ev_mul (ha : Ev s r ta (rInt i) r1) (hb : Ev s r1 tb (rInt j) r2) (hc : CMul i j) : Ev s r (tOp (rI CMul fun i j => .int (i * j)) ta tb) (rInt (i * j)) r2 := ev_opI ha hb rfl hc fun _ => rfl
theorem ev_shl (ha : Ev s r ta (rInt i) r1) (hb : Ev s r1 tb (rInt j) r2) (hc : CPow i j) : Ev s r (tOp (rI CPow fun i j => .int (i * 2 ^ j.toNat)) ta tb) (rInt (i * 2 ^ j.toNat)) r2 := ev_opI ha hb rfl hc fun _ => rfl
theorem ev_shr (ha : Ev s r ta (rInt i) r1) (hb : Ev s r1 tb (rInt j) r2) (hc : 0 ≤ j) : Ev s r (tOp (rI (fun _ j => 0 ≤ j) fun i j => .int (i / 2 ^ j.toNat)) ta tb) (rInt (i / 2 ^ j.toNat)) r2 := ev_opI ha hb rfl hc fun _ => rfl
theorem ev_modN (ha : Ev s r ta (rInt i) r1) (hb : Ev s r1 tb (rInt j) r2) (hc : j ≠ 0) : Ev s r (tOp (rI (fun _ j => j ≠ 0) fun i j => .int (i.fmod j)) ta tb) (rInt (i.fmod j)) r2 := ev_opI ha hb rfl hc fun _ => rfl
theorem ev_fdivN (ha : Ev s r ta (rInt i) r1) (hb : Ev s r1 tb (rInt j) r2) (hc : CDivN i j) : Ev s r (tOp (rI CDivN fun i j => .int (i.fdiv j)) ta tb) (rInt (i.fdiv j)) r2 := ev_opI ha hb rfl hc fun _ => rfl
theorem ev_lt (ha : Ev s r ta (rInt i) r1) (hb : Ev s r1 tb (rInt j) r2) : Ev s r (tOp (rI0 fun i j => .bl (decide (i < j))) ta tb) (rBl (decide (i < j))) r2 := ev_op0 ha hb rfl fun _ => rfl
theorem ev_le (ha : Ev s r ta (rInt i) r1) (hb : Ev s r1 tb (rInt j) r2) : Ev s r (tOp (rI0 fun i j => .bl (decide (i ≤ j))) ta tb) (rBl (decide (i ≤ j))) r2 := ev_op0 ha hb rfl fun _ => rfl
theorem ev_gt (ha : Ev s r ta (rInt i) r1) (hb : Ev s r1 tb (rInt j) r2) : Ev s r (tOp (rI0 fun i j => .bl (decide (j < i))) ta tb) (rBl (decide (j < i))) r2 := ev_op0 ha hb rfl fun _ => rfl
theorem ev_ge (ha : Ev s r ta (rInt i) r1) (hb : Ev s r1 tb (rInt j) r2) : Ev s r (tOp (rI0 fun i j => .bl (decide (j ≤ i))) ta tb) (rBl (decide (j ≤ i))) r2 := ev_op0 ha hb rfl fun _ => rfl
theorem ev_neg (ha : Ev s r ta (rInt i) r1) : Ev s r (tUn (rU fun i => .int (-i)) ta) (rInt (-i)) r1 := ev_un ha fun G H x _ px W w => ⟨i, px, w _ rfl⟩
/-- a < b < c -/
theorem ev_chain {f f' : R2} {k k' : Int} {b b' : Bool} (ha : Ev s r ta (rInt i) r) (hb : Ev s r tb (rInt j) r) (hf : ∀ H (W : VK), W (.bl b) H → f (.int i) (.int j) H W) (hc : b = true → Ev s r td (rInt k) r) (hf' : ∀ H (W : VK), W (.bl b') H → f' (.int j) (.int k) H W) :
    Ev s r (tChain f f' ta tb td) (rBl (b && b')) r := fun e G H σ m l W w => ha e G H σ m l _ fun x G1 H1 m1 g1 px => hb e G1 H1 σ m1 (l.mono g1) _ fun y G2 H2 m2 g2 py => by
  have px : x = .int i := px
  have py : y = .int j := py
  subst px; subst py
  refine hf H2 _ ⟨b, rfl, ?_⟩
  cases b with
  | true =>
    refine iteT (hc rfl e G2 H2 σ m2 (l.mono (g1.trans g2)) _ fun u G3 H3 m3 g3 pu => ?_)
    have pu : u = .int k := pu
    subst pu
    exact hf' H3 _ (w _ G3 H3 m3 (g1.trans (g2.trans g3)) rfl)
  | false => exact iteF (w _ G2 H2 m2 (g1.trans g2) rfl)
theorem et_chain {f f' : R2} {te : TE} (h : Ev s r te (rBl b) r1) : EvT s r (tTest te) b r1 := et_test h
/-- == of scalars -/
theorem ev_eqV {x y : V} (ha : Ev s r ta P r1) (hb : Ev s r1 tb Q r2) (hx : ∀ G v, P.p G v → v = x) (hy : ∀ G v, Q.p G v → v = y) (hs : scal x y = true) : Ev s r (tOp rEq ta tb) (rBl (decide (x = y))) r2 := ev_op ha hb fun G H u v _ hu hv W w => by
  rw [hx G u hu, hy G v hv]
  exact ⟨hs, w _ rfl⟩
theorem ev_neV {x y : V} (ha : Ev s r ta P r1) (hb : Ev s r1 tb Q r2) (hx : ∀ G v, P.p G v → v = x) (hy : ∀ G v, Q.p G v → v = y) (hs : scal x y = true) : Ev s r (tOp rNe ta tb) (rBl (!decide (x = y))) r2 := ev_op ha hb fun G H u v _ hu hv W w => by
  rw [hx G u hu, hy G v hv]
  exact ⟨hs, w _ rfl⟩
theorem ev_eqI (ha : Ev s r ta (rInt i) r1) (hb : Ev s r1 tb (rInt j) r2) : Ev s r (tOp rEq ta tb) (rBl (decide (i = j))) r2 := (ev_eqV ha hb (fun _ _ h => h) (fun _ _ h => h) rfl).to (by congr 1; exact decide_eq_decide.mpr ⟨fun h => V.int.inj h, fun h => h ▸ rfl⟩)
theorem ev_neI (ha : Ev s r ta (rInt i) r1) (hb : Ev s r1 tb (rInt j) r2) : Ev s r (tOp rNe ta tb) (rBl (!decide (i = j))) r2 := (ev_neV ha hb (fun _ _ h => h) (fun _ _ h => h) rfl).to (by congr 2; exact decide_eq_decide.mpr ⟨fun h => V.int.inj h, fun h => h ▸ rfl⟩)
theorem ev_eqS (ha : Ev s r ta (rStr z) r1) (hb : Ev s r1 tb (rStr z') r2) : Ev s r (tOp rEq ta tb) (rBl (decide (z = z'))) r2 := (ev_eqV ha hb (fun _ _ h => h) (fun _ _ h => h) rfl).to (by congr 1; exact decide_eq_decide.mpr ⟨fun h => V.str.inj h, fun h => h ▸ rfl⟩)
theorem ev_neS (ha : Ev s r ta (rStr z) r1) (hb : Ev s r1 tb (rStr z') r2) : Ev s r (tOp rNe ta tb) (rBl (!decide (z = z'))) r2 := (ev_neV ha hb (fun _ _ h => h) (fun _ _ h => h) rfl).to (by congr 2; exact decide_eq_decide.mpr ⟨fun h => V.str.inj h, fun h => h ▸ rfl⟩)
/-- is None -/
theorem ev_isN0 (ha : Ev s r ta rNon r1) : Ev s r (tIsN ta) (rBl true) r1 := fun e G H σ m l W w => ha e G H σ m l _ fun x G1 H1 m1 g1 px => by
  have px : x = .non := px
  subst px
  exact w _ G1 H1 m1 g1 rfl
theorem ev_isN1 (ha : Ev s r ta P r1) (hp : ∀ G v, P.p G v → v ≠ .non) : Ev s r (tIsN ta) (rBl false) r1 := fun e G H σ m l W w => ha e G H σ m l _ fun x G1 H1 m1 g1 px => by
  rw [decide_eq_false (hp _ _ px)]
  exact w _ G1 H1 m1 g1 rfl
theorem ev_isNO {α : Type} {R : α → Pr} {o : Option α} (ha : Ev s r ta (rOpt R o) r1) (hp : ∀ a G v, (R a).p G v → v ≠ .non) : Ev s r (tIsN ta) (rBl o.isNone) r1 := by
  cases o with
  | none => exact ev_isN0 ha
  | some a => exact ev_isN1 ha (hp a)
theorem ev_notN0 (ha : Ev s r ta rNon r1) : Ev s r (tNotN ta) (rBl false) r1 := fun e G H σ m l W w => ha e G H σ m l _ fun x G1 H1 m1 g1 px => by
  have px : x = .non := px
  subst px
  exact w _ G1 H1 m1 g1 rfl
theorem ev_notN1 (ha : Ev s r ta P r1) (hp : ∀ G v, P.p G v → v ≠ .non) : Ev s r (tNotN ta) (rBl true) r1 := fun e G H σ m l W w => ha e G H σ m l _ fun x G1 H1 m1 g1 px => by
  rw [decide_eq_false (hp _ _ px)]
  exact w _ G1 H1 m1 g1 rfl
theorem ev_notNO {α : Type} {R : α → Pr} {o : Option α} (ha : Ev s r ta (rOpt R o) r1) (hp : ∀ a G v, (R a).p G v → v ≠ .non) : Ev s r (tNotN ta) (rBl o.isSome) r1 := by
  cases o with
  | none => exact ev_notN0 ha
  | some a => exact ev_notN1 ha (hp a)
theorem nn_int {i : Int} : ∀ (G : Hp) (v : V), (rInt i).p G v → v ≠ .non := fun _ _ h z => by rw [show _ = V.int i from h] at z; cases z
theorem nn_str {z : Str} : ∀ (G : Hp) (v : V), (rStr z).p G v → v ≠ .non := fun _ _ h w => by rw [show _ = V.str z from h] at w; cases w
theorem nn_ts : ∀ (G : Hp) (v : V), (rTs K Ps).p G v → v ≠ .non := fun _ _ ⟨_, a, _, h, _⟩ w => by rw [h] at w; cases w
theorem nn_ob {C : Addr} {ns : List Str} : ∀ (G : Hp) (v : V), (rOb C ns Ps).p G v → v ≠ .non := fun _ _ ⟨a, _, _, h, _⟩ w => by rw [h] at w; cases w
/-- a whole number as a test -/
theorem et_truI (ha : Ev s r ta (rInt i) r1) : EvT s r (fun σ H Q => ta σ H fun x H' => ∃ k, TruV K x H' k ∧ Q k H') (i != 0) r1 := fun e G H σ m l W w => ha e G H σ m l _ fun x G1 H1 m1 g1 px => by
  have px : x = .int i := px
  subst px
  exact ⟨_, rfl, w G1 H1 m1 g1⟩
/-! ### items -/
theorem atI_nn {α : Type} {xs : List α} {i : Int} {x : α} (h0 : 0 ≤ i) (h : xs[i.toNat]? = some x) : atI xs i = some x := by
  have hl : i.toNat < xs.length := (List.getElem?_eq_some_iff.mp h).1
  unfold atI ixN
  rw [if_pos h0, if_pos (by omega)]
  exact h
theorem ev_ixL (ha : Ev s r ta (rLs K Ps) r1) (hb : Ev s r1 tb (rInt i) r2) (h0 : 0 ≤ i) (h : Ps[i.toNat]? = some P) : Ev s r (tOp (rIxL K) ta tb) P r2 := ev_op ha hb fun G H x y sm ⟨_, a, vs, ex, hs, al⟩ py W w => by
  obtain ⟨v, hv, pv⟩ := al.get' h
  exact ⟨a, vs, i, v, ex, py, sm.seq hs, atI_nn h0 hv, w v pv⟩
theorem ev_ixT (ha : Ev s r ta (rTs K Ps) r1) (hb : Ev s r1 tb (rInt i) r2) (h0 : 0 ≤ i) (h : Ps[i.toNat]? = some P) : Ev s r (tOp (rIxT K) ta tb) P r2 := ev_op ha hb fun G H x y sm ⟨_, a, vs, ex, hs, al⟩ py W w => by
  obtain ⟨v, hv, pv⟩ := al.get' h
  exact ⟨a, vs, i, v, ex, py, SqT.ext hs sm, atI_nn h0 hv, w v pv⟩
/-- the first item, the second .. of a tuple of known length -/
theorem ev_ixT0 (n : Nat) (ha : Ev s r ta (rTs K Ps) r1) (h : Ps[n]? = some P) : Ev s r (tOp (rIxT K) ta (tC (.int (n : Int)))) P r1 := ev_ixT ha ev_int (Int.natCast_nonneg n) h
/-! ### dicts -/
def valP {κ : Type} [DecidableEq κ] (kvs : List (κ × Pr)) (k : κ) : Option Pr := (kvs.find? fun kv => decide (kv.1 = k)).map (·.2)
theorem AllK.val {κ : Type} [DecidableEq κ] {G : Hp} {k : κ} : ∀ {vs : List (κ × V)} {kvs : List (κ × Pr)}, AllK G vs kvs → (∀ P, valP kvs k = some P → ∃ v, valV vs k = some v ∧ P.p G v) ∧ (valP kvs k = none → valV vs k = none)
  | _, _, .nil => ⟨fun P h => (by cases h), fun _ => rfl⟩
  | (k1, v) :: _, (k2, P) :: _, .cons ⟨h1, h2⟩ t => by
    have h1 : k1 = k2 := h1
    subst h1
    obtain ⟨i1, i2⟩ := AllK.val (k := k) t
    unfold valP valV at *
    by_cases c : k1 = k
    · subst c
      rw [List.find?_cons_of_pos (by simp), List.find?_cons_of_pos (by simp)]
      refine ⟨fun P' e => ?_, fun e => by cases e⟩
      cases e
      exact ⟨v, rfl, h2⟩
    · rw [List.find?_cons_of_neg (by simpa using c), List.find?_cons_of_neg (by simpa using c)]
      exact ⟨i1, i2⟩
theorem ev_dget {kvs : List (Key × Pr)} {k : Key} (hd : Ev s r td (rDk kvs) r1) (hk : Ev s r1 ta Q r2) (hq : ∀ G v, Q.p G v → v = kV k) (hv : valP kvs k = some P) : Ev s r (tDGet td ta) P r2 := fun e G H σ m l W w => hd e G H σ m l _ fun x G1 H1 m1 g1 px => hk e G1 H1 σ m1 (l.mono g1) _ fun y G2 H2 m2 g2 py => by
  obtain ⟨_, a, od, vs, ex, hs, al⟩ := Pr.m _ g2 px
  obtain ⟨v, lv, pv⟩ := al.val.1 P hv
  exact ⟨a, v, ex, .inl ⟨vs, k, .inr ⟨od, m2.sub _ _ hs⟩, hq _ _ py, lv.symm⟩, w v G2 H2 m2 (g1.trans g2) pv⟩
theorem ev_din {kvs : List (Key × Pr)} {k : Key} (hk : Ev s r ta Q r1) (hd : Ev s r1 td (rDk kvs) r2) (hq : ∀ G v, Q.p G v → v = kV k) : Ev s r (tDIn ta td) (rBl (valP kvs k).isSome) r2 := fun e G H σ m l W w => hk e G H σ m l _ fun y G1 H1 m1 g1 py => hd e G1 H1 σ m1 (l.mono g1) _ fun x G2 H2 m2 g2 px => by
  obtain ⟨_, a, od, vs, ex, hs, al⟩ := px
  refine ⟨a, valV vs k, ex, .inl ⟨vs, k, .inr ⟨od, m2.sub _ _ hs⟩, hq _ _ py, rfl⟩, ?_⟩
  have e1 : (valV vs k).isSome = (valP kvs k).isSome := by
    cases h : valP kvs k with
    | none => rw [al.val.2 h]; rfl
    | some P =>
      obtain ⟨v, lv, _⟩ := al.val.1 P h
      rw [lv]
      rfl
  rw [e1]
  exact w _ G2 H2 m2 (g1.trans g2) rfl
theorem ev_dnotin {kvs : List (Key × Pr)} {k : Key} (hk : Ev s r ta Q r1) (hd : Ev s r1 td (rDk kvs) r2) (hq : ∀ G v, Q.p G v → v = kV k) : Ev s r (tDNotIn ta td) (rBl (!(valP kvs k).isSome)) r2 := fun e G H σ m l W w => hk e G H σ m l _ fun y G1 H1 m1 g1 py => hd e G1 H1 σ m1 (l.mono g1) _ fun x G2 H2 m2 g2 px => by
  obtain ⟨_, a, od, vs, ex, hs, al⟩ := px
  refine ⟨a, valV vs k, ex, .inl ⟨vs, k, .inr ⟨od, m2.sub _ _ hs⟩, hq _ _ py, rfl⟩, ?_⟩
  have e1 : (valV vs k).isSome = (valP kvs k).isSome := by
    cases h : valP kvs k with
    | none => rw [al.val.2 h]; rfl
    | some P =>
      obtain ⟨v, lv, _⟩ := al.val.1 P h
      rw [lv]
      rfl
  rw [e1]
  exact w _ G2 H2 m2 (g1.trans g2) rfl
/-- d[k] = e, del d[k] -/
def putP {κ : Type} [DecidableEq κ] (kvs : List (κ × Pr)) (k : κ) (P : Pr) : List (κ × Pr) := if (kvs.any fun kv => decide (kv.1 = k)) = true then kvs.map (fun kv => if kv.1 = k then (kv.1, P) else kv) else kvs ++ [(k, P)]
def dropP {κ : Type} [DecidableEq κ] (kvs : List (κ × Pr)) (k : κ) : List (κ × Pr) := kvs.filter fun kv => decide (kv.1 ≠ k)
theorem AllK.len {κ : Type} {G : Hp} {vs : List (κ × V)} {kvs : List (κ × Pr)} (h : AllK G vs kvs) : vs.length = kvs.length := Paired.length h
theorem AllK.any {κ : Type} [DecidableEq κ] {G : Hp} {k : κ} : ∀ {vs : List (κ × V)} {kvs : List (κ × Pr)}, AllK G vs kvs → (vs.any fun kv => decide (kv.1 = k)) = (kvs.any fun kv => decide (kv.1 = k))
  | _, _, .nil => rfl
  | (k1, v) :: _, (k2, P) :: _, .cons ⟨h1, h2⟩ t => by
    have h1 : k1 = k2 := h1
    rw [List.any_cons, List.any_cons, AllK.any t, h1]
theorem AllK.map {κ : Type} [DecidableEq κ] {G : Hp} {k : κ} {v : V} {P : Pr} (hv : P.p G v) : ∀ {vs : List (κ × V)} {kvs : List (κ × Pr)}, AllK G vs kvs → AllK G (vs.map fun kv => if kv.1 = k then (kv.1, v) else kv) (kvs.map fun kv => if kv.1 = k then (kv.1, P) else kv)
  | _, _, .nil => .nil
  | (k1, w) :: _, (k2, Q) :: _, .cons ⟨h1, h2⟩ t => by
    have h1 : k1 = k2 := h1
    subst h1
    rw [List.map_cons, List.map_cons]
    refine .cons ?_ (AllK.map hv t)
    by_cases c : k1 = k
    · rw [if_pos c, if_pos c]
      exact ⟨rfl, hv⟩
    · rw [if_neg c, if_neg c]
      exact ⟨rfl, h2⟩
theorem AllK.app {κ : Type} {G : Hp} : ∀ {vs ws : List (κ × V)} {kvs lws : List (κ × Pr)}, AllK G vs kvs → AllK G ws lws → AllK G (vs ++ ws) (kvs ++ lws)
  | _, _, _, _, .nil, k => k
  | _, _, _, _, .cons a t, k => .cons a (AllK.app t k)
theorem AllK.put {κ : Type} [DecidableEq κ] {G : Hp} {k : κ} {v : V} {P : Pr} {vs : List (κ × V)} {kvs : List (κ × Pr)} (h : AllK G vs kvs) (hv : P.p G v) : AllK G (putK vs k v) (putP kvs k P) := by
  unfold putK putP
  rw [AllK.any h]
  by_cases c : (kvs.any fun kv => decide (kv.1 = k)) = true
  · rw [if_pos c, if_pos c]
    exact AllK.map hv h
  · rw [if_neg c, if_neg c]
    exact AllK.app h (.cons ⟨rfl, hv⟩ .nil)
theorem AllK.drop {κ : Type} [DecidableEq κ] {G : Hp} {k : κ} : ∀ {vs : List (κ × V)} {kvs : List (κ × Pr)}, AllK G vs kvs → AllK G (dropK vs k) (dropP kvs k)
  | _, _, .nil => .nil
  | (k1, w) :: _, (k2, Q) :: _, .cons ⟨h1, h2⟩ t => by
    have h1 : k1 = k2 := h1
    subst h1
    unfold dropK dropP
    by_cases c : k1 = k
    · rw [List.filter_cons_of_neg (by simpa using c), List.filter_cons_of_neg (by simpa using c)]
      exact AllK.drop t
    · rw [List.filter_cons_of_pos (by simpa using c), List.filter_cons_of_pos (by simpa using c)]
      exact .cons ⟨rfl, h2⟩ (AllK.drop t)
theorem length_putP {κ : Type} [DecidableEq κ] (kvs : List (κ × Pr)) (k : κ) (P : Pr) : (putP kvs k P).length ≤ kvs.length + 1 := by
  unfold putP
  split
  · rw [List.length_map]; omega
  · rw [List.length_append]; exact Nat.le_refl _
theorem ok_dput {a : Addr} {kvs : List (Key × Pr)} {k : Key} (hv : Ev s r tv P r1) (hd : Ev s r1 td (rAt a) r2) (hk : Ev s r2 ta Q (pre ++ (a, cDk kvs) :: post)) (hq : ∀ G v, Q.p G v → v = kV k) (hz : kvs.length < sizeLine) (kk : po.nx s (pre ++ (a, cDk (putP kvs k P)) :: post)) :
    Ok e s r (sDPut td ta tv) po := fun G H σ m l D d => hv e G H σ m l _ fun v G1 H1 m1 g1 pv => hd e G1 H1 σ m1 (l.mono g1) _ fun x G2 H2 m2 g2 px => hk e G2 H2 σ m2 (l.mono (g1.trans g2)) _ fun y G3 H3 m3 g3 py => by
  obtain ⟨o, ho, ⟨_, vs, rfl, al⟩⟩ := m3.at_ (List.mem_append_right _ List.mem_cons_self)
  exact ⟨a, _, px, .inl ⟨vs, k, ho, hq _ _ py, by rw [al.len]; exact hz, rfl⟩, d.nx _ _ _ _ _ kk (m3.putAt ⟨by have := length_putP kvs k P; omega, _, rfl, AllK.put al (P.m (g2.trans g3) pv)⟩) (g1.trans (g2.trans g3)) (l.mono (g1.trans (g2.trans g3)))⟩
theorem ok_ddel {a : Addr} {kvs : List (Key × Pr)} {k : Key} (hd : Ev s r td (rAt a) r1) (hk : Ev s r1 ta Q (pre ++ (a, cDk kvs) :: post)) (hq : ∀ G v, Q.p G v → v = kV k) (hh : (valP kvs k).isSome = true) (kk : po.nx s (pre ++ (a, cDk (dropP kvs k)) :: post)) :
    Ok e s r (sDDel td ta) po := fun G H σ m l D d => hd e G H σ m l _ fun x G1 H1 m1 g1 px => hk e G1 H1 σ m1 (l.mono g1) _ fun y G2 H2 m2 g2 py => by
  obtain ⟨o, ho, ⟨hz, vs, rfl, al⟩⟩ := m2.at_ (List.mem_append_right _ List.mem_cons_self)
  obtain ⟨P, hP⟩ := Option.isSome_iff_exists.mp hh
  obtain ⟨v, lv, _⟩ := al.val.1 P hP
  refine ⟨a, vs, k, px, ho, hq _ _ py, by rw [lv]; rfl, d.nx _ _ _ _ _ kk (m2.putAt ⟨?_, _, rfl, AllK.drop al⟩) (g1.trans g2) (l.mono (g1.trans g2))⟩
  unfold dropP
  exact Nat.le_trans (List.length_filter_le _ _) hz
/-! ### walks of a dict -/
theorem wk_items {G0 : Hp} {a : Addr} {od : Obj} {vs : List (Key × V)} {kvs : List (Key × Pr)} (h : G0 a = some (.frz od (.dK vs))) (al : AllK G0 vs kvs) (hz : kvs.length ≤ sizeLine) : Wk (Iti a od vs) G0 (kvs.map fun kv => rTs K [rV (kV kv.1), kv.2]) where
  z := by rw [List.length_map]; exact hz
  go := fun G H i s1 s2 hi => ⟨s2 _ _ (s1 _ _ h), by rw [List.length_map] at hi; rw [al.len]; exact hi⟩
  stop := fun G H s1 s2 => ⟨s2 _ _ (s1 _ _ h), by rw [List.length_map, al.len]; exact Nat.le_refl _⟩
  yld := fun G H i x H' s1 s2 ⟨T, k, v, hk, e1, hT, e2⟩ hi => by
    subst e1; subst e2
    have gT : G T = none := s2.free hT
    have q : ∀ {vs : List (Key × V)} {kvs : List (Key × Pr)} {i : Nat}, AllK G vs kvs → vs[i]? = some (k, v) → ∃ P, kvs[i]? = some (k, P) ∧ P.p G v := fun {vs kvs i} al h => by
      induction i generalizing vs kvs with
      | zero =>
        cases al with
        | nil => cases h
        | cons a t => simp at h; subst h; exact ⟨_, by rw [show k = _ from a.1]; rfl, a.2⟩
      | succ i ih =>
        cases al with
        | nil => cases h
        | cons a t =>
          obtain ⟨P, h1, h2⟩ := ih t (by simpa using h)
          exact ⟨P, by simpa using h1, h2⟩
    obtain ⟨P, hP, pv⟩ := q (al.mono s1) hk
    refine ⟨upd G T (.tup [kV k, v]), rTs K [rV (kV k), P], ⟨same_new gT, fun e r h => h.new hT⟩, by rw [List.getElem?_map, hP]; rfl, (by show 2 ≤ sizeLine; decide), T, _, rfl, SqT.of upd_same, .cons rfl (.cons (P.m (same_new gT) pv) .nil)⟩
theorem ei_items {kvs : List (Key × Pr)} (h : Ev s r td (rDk kvs) r1) : EvI s r (iItems td) (kvs.map fun kv => rTs K [rV (kV kv.1), kv.2]) r1 := fun e G H σ m l R q => h e G H σ m l _ fun x G1 H1 m1 g1 ⟨hz, a, od, vs, ex, hs, al⟩ =>
  ⟨a, od, vs, ex, m1.sub _ _ hs, q _ G1 H1 m1 g1 (wk_items hs al hz)⟩
theorem wk_keys {G0 : Hp} {a : Addr} {od : Obj} {vs : List (Key × V)} {kvs : List (Key × Pr)} (h : G0 a = some (.frz od (.dK vs))) (al : AllK G0 vs kvs) (hz : kvs.length ≤ sizeLine) : Wk (Itk a od vs) G0 (kvs.map fun kv => rV (kV kv.1)) where
  z := by rw [List.length_map]; exact hz
  go := fun G H i s1 s2 hi => ⟨s2 _ _ (s1 _ _ h), by rw [List.length_map] at hi; rw [al.len]; exact hi⟩
  stop := fun G H s1 s2 => ⟨s2 _ _ (s1 _ _ h), by rw [List.length_map, al.len]; exact Nat.le_refl _⟩
  yld := fun G H i x H' s1 s2 ⟨e2, k, v, hk, e1⟩ hi => by
    subst e1; subst e2
    have q : ∀ {vs : List (Key × V)} {kvs : List (Key × Pr)} {i : Nat}, AllK G vs kvs → vs[i]? = some (k, v) → ∃ P, kvs[i]? = some (k, P) ∧ P.p G v := fun {vs kvs i} al h => by
      induction i generalizing vs kvs with
      | zero =>
        cases al with
        | nil => cases h
        | cons a t => simp at h; subst h; exact ⟨_, by rw [show k = _ from a.1]; rfl, a.2⟩
      | succ i ih =>
        cases al with
        | nil => cases h
        | cons a t =>
          obtain ⟨P, h1, h2⟩ := ih t (by simpa using h)
          exact ⟨P, by simpa using h1, h2⟩
    obtain ⟨P, hP, pv⟩ := q (al.mono s1) hk
    exact ⟨G, _, .rfl, by rw [List.getElem?_map, hP]; rfl, rfl⟩
theorem ei_keys {kvs : List (Key × Pr)} (h : Ev s r td (rDk kvs) r1) : EvI s r (iKeys td) (kvs.map fun kv => rV (kV kv.1)) r1 := fun e G H σ m l R q => h e G H σ m l _ fun x G1 H1 m1 g1 ⟨hz, a, od, vs, ex, hs, al⟩ =>
  ⟨a, od, ex, .inl ⟨vs, m1.sub _ _ hs, q _ G1 H1 m1 g1 (wk_keys hs al hz)⟩⟩
/-! ### dict comprehensions -/
theorem ex_dc {wi : TI} {g : TG} {tk : TE} {Ps : List Pr} {vs : List Nat} (hi : EvI s r wi Ps r1) (inv : Nat → List (Key × Pr) → Rs → Prop) (h0 : inv 0 [] r1)
    (ht : Ps.length ≤ sizeLine → ∀ i P acc r', Ps[i]? = some P → inv i acc r' → ∃ s2 ws, Bg g P (wipeS s vs) s2 ws ∧ (∀ w ∈ ws, w ∈ vs) ∧ ∃ b r2, EvT s2 r' tt b r2 ∧ (b = true → ∃ k Q Y r3 r4, Ev s2 r2 tk Q r3 ∧ (∀ G v, Q.p G v → v = kV k) ∧ Ev s2 r3 tv Y r4 ∧ inv (i + 1) (putP acc k Y) r4) ∧ (b = false → inv (i + 1) acc r2)) :
    EvX s r (tDc wi g tt tk tv vs) (fun P r' => ∃ a acc r2, inv Ps.length acc r2 ∧ P = rAt a ∧ r' = (a, cDk acc) :: r2) := fun e G H σ m l Q q => hi e G H σ m l _ fun J G1 H1 m1 g1 wk => fun Dl hD => by
  refine ⟨fun i k H => k = Ps.length - i ∧ i ≤ Ps.length ∧ ∃ acc r' G, inv i acc r' ∧ acc.length ≤ i ∧ Mv e G H ((Dl, cDk acc) :: r') ∧ Same G1 G, ⟨_, rfl, Nat.zero_le _, [], r1, G1, h0, Nat.zero_le _, m1.own hD ⟨Nat.zero_le _, [], rfl, .nil⟩, Same.refl _⟩, ?_⟩
  rintro i k H2 ⟨rfl, hle, acc, r', G2, iv, hacc, m2, sg⟩
  by_cases hlt : i < Ps.length
  · refine .inr ⟨wk.go G2 H2 i sg m2.sub hlt, fun H' => ∃ acc r' G, inv (i + 1) acc r' ∧ acc.length ≤ i + 1 ∧ Mv e G H' ((Dl, cDk acc) :: r') ∧ Same G1 G, fun H' w => ⟨_, by omega, rfl, hlt, w⟩, fun x H3 y => ?_⟩
    obtain ⟨G3, P, ⟨gg, pu⟩, hP, px⟩ := wk.yld G2 H2 i x H3 sg m2.sub y hlt
    obtain ⟨s2, ws, bg, hws, b, r2, het, hb1, hb2⟩ := ht wk.z i P acc r' hP iv
    have m3 := pu e _ m2
    refine bg G3 H3 (wipe σ vs) x px m3.sub ((l.mono (g1.trans (sg.trans gg))).wipe vs) _ fun σ3 l3 hl3 ag => ⟨wipe_eq (by rw [hl3, wipe_length]) (fun j hj => by rw [ag j (fun z => hj (hws j z)), wipe_out _ _ _ hj]), ?_⟩
    refine het.front e G3 H3 σ3 m3 l3 _ fun G4 H4 m4 g4 => ?_
    cases b with
    | true =>
      obtain ⟨k, Qk, Y, r3, r4, hk, hq, hev, iv2⟩ := hb1 rfl
      refine iteT (hk.front e G4 H4 σ3 m4 (l3.mono g4) _ fun u G5 H5 m5 g5 pu => hev.front e G5 H5 σ3 m5 (l3.mono (g4.trans g5)) _ fun v G6 H6 m6 g6 pv => ?_)
      obtain ⟨o, ho, ⟨z, vs2, rfl, al⟩⟩ := m6.at_ List.mem_cons_self
      have zl : acc.length < sizeLine := Nat.lt_of_le_of_lt hacc (Nat.lt_of_lt_of_le hlt wk.z)
      have zp := length_putP acc k Y
      exact ⟨vs2, k, hq _ _ pu, ho, by rw [al.len]; exact zl, putP acc k Y, r4, G6, iv2, by omega, m6.put ⟨by omega, _, rfl, AllK.put al pv⟩, sg.trans (gg.trans (g4.trans (g5.trans g6)))⟩
    | false => exact iteF ⟨acc, r2, G4, hb2 rfl, Nat.le_succ_of_le hacc, m4, sg.trans (gg.trans g4)⟩
  · have e1 : i = Ps.length := by omega
    subst e1
    exact .inl ⟨wk.stop G2 H2 sg m2.sub, q _ _ _ _ _ ⟨Dl, acc, r', iv, rfl, rfl⟩ m2 (g1.trans sg) rfl⟩
/-! ### built-ins by name -/
theorem ev_listD {kvs : List (Key × Pr)} (h : EvA s r t [rDk kvs] r1) : Ev s r (tCB (fun xs H Q => ∃ (a : Addr) (kvs : List (Key × V)), xs = [.ref a] ∧ Rd H a (.dK kvs) ∧ ∀ p, H p = none → Q (.ref p) (upd H p (.lst (kvs.map fun kv => kV kv.1)))) t) (rLs K (kvs.map fun kv => rV (kV kv.1))) r1 := ev_cbN h fun G H vs sm al W w => by
  cases al with
  | cons av t =>
    cases t
    obtain ⟨z, a, od, ws, ex, hs, ak⟩ := av
    subst ex
    refine ⟨a, ws, rfl, .inr ⟨od, sm _ _ hs⟩, fun p hp => w p _ hp fun G' sg hG => ⟨by rw [List.length_map]; exact z, p, _, rfl, SqL.of hG, ?_⟩⟩
    have q : ∀ {ws : List (Key × V)} {kvs : List (Key × Pr)}, AllK G ws kvs → All2 G' (ws.map fun kv => kV kv.1) (kvs.map fun kv => rV (kV kv.1)) := fun {ws kvs} h => by
      induction h with
      | nil => exact .nil
      | cons a _ ih => exact .cons (congrArg kV a.1) ih
    exact q ak
theorem rV_int (i : Int) : rV (.int i) = rInt i := rfl
theorem rV_str (z : Str) : rV (.str z) = rStr z := rfl
theorem all2_ints {G : Hp} : ∀ {vs : List V} {ns : List Int}, All2 G vs (ns.map rInt) → vs = ns.map V.int
  | _, [], h => by cases h; rfl
  | _, n :: ns, h => by
    rw [List.map_cons] at h
    cases h with
    | cons a t => rw [all2_ints t, show _ = V.int n from a]; rfl
theorem all2_ofInts {G : Hp} : ∀ (ns : List Int), All2 G (ns.map V.int) (ns.map rInt)
  | [] => .nil
  | n :: ns => .cons rfl (all2_ofInts ns)
/-- sorted of whole numbers -/
def sortI (ns : List Int) : List Int := ns.mergeSort (fun a b => decide (a ≤ b))
theorem sortI_eq {ns ns' : List Int} (p : ns'.Perm ns) (w : ns'.Pairwise (· ≤ ·)) : ns' = sortI ns := by
  have w2 : (sortI ns).Pairwise (· ≤ ·) := (List.pairwise_mergeSort (le := fun a b => decide (a ≤ b)) (fun a b c h1 h2 => by simp at *; omega) (fun a b => by simp; omega) ns).imp fun h => of_decide_eq_true h
  exact List.Perm.eq_of_pairwise (fun a b _ _ h1 h2 => Int.le_antisymm h1 h2) w w2 (p.trans (List.mergeSort_perm ns _).symm)
theorem ev_sortedI {ns : List Int} (h : EvA s r t [rLs K (ns.map rInt)] r1) : Ev s r (tCB (rSortedI K) t) (rLs K ((sortI ns).map rInt)) r1 := ev_cbN h fun G H vs sm al W w => by
  cases al with
  | cons av t =>
    cases t
    obtain ⟨z, a, ws, ex, hs, ak⟩ := av
    subst ex
    refine ⟨a, ns, rfl, (by rw [← all2_ints ak]; exact sm.seq hs), fun ns' p hp hw hn => w p _ hn fun G' sg hG => ⟨?_, p, _, rfl, SqL.of hG, ?_⟩⟩
    · rw [List.length_map, sortI, List.length_mergeSort]
      rw [List.length_map] at z
      exact z
    · rw [← sortI_eq hp hw]
      exact all2_ofInts _
/-- tuple(xs) of a list -/
theorem ev_tupL (h : Ev s r ta (rLs K Ps) r1) : Ev s r (tThen ta (kTup K)) (rTs K Ps) r1 := fun e G H σ m l W w => h e G H σ m l _ fun x G1 H1 m1 g1 ⟨z, a, vs, ex, hs, al⟩ =>
  .inl ⟨a, vs, ex, m1.sub.seq hs, fun q hq => w _ (upd G1 q (.tup vs)) _ (m1.new hq) (g1.trans (same_new (m1.sub.free hq))) ⟨z, q, vs, rfl, SqT.of upd_same, al.mono (same_new (m1.sub.free hq))⟩⟩
/-- len -/
theorem ev_lenL (h : EvA s r t [rLs K Ps] r1) : Ev s r (tCB (fun xs H Q => ∃ x n, xs = [x] ∧ LenV K x H n ∧ Q (.int n) H) t) (rInt (Ps.length : Int)) r1 := ev_cb h fun G H vs sm al W w => by
  cases al with
  | cons av t =>
    cases t
    obtain ⟨z, a, ws, ex, hs, ak⟩ := av
    subst ex
    exact ⟨_, _, rfl, .inl ⟨ws, sm.seq hs, rfl⟩, w _ (by rw [ak.len]; rfl)⟩
theorem ev_lenT (h : EvA s r t [rTs K Ps] r1) : Ev s r (tCB (fun xs H Q => ∃ x n, xs = [x] ∧ LenV K x H n ∧ Q (.int n) H) t) (rInt (Ps.length : Int)) r1 := ev_cb h fun G H vs sm al W w => by
  cases al with
  | cons av t =>
    cases t
    obtain ⟨z, a, ws, ex, hs, ak⟩ := av
    subst ex
    exact ⟨_, _, rfl, .inr ⟨ws, SqT.ext hs sm, rfl⟩, w _ (by rw [ak.len]; rfl)⟩
theorem ev_lenS {z : Str} (h : EvA s r t [rStr z] r1) (hz : z.length ≤ sizeLine) : Ev s r (tCB (fun xs H Q => ∃ x n, xs = [x] ∧ LenV K x H n ∧ Q (.int n) H) t) (rInt (z.length : Int)) r1 := ev_cb h fun G H vs sm al W w => by
  cases al with
  | cons av t =>
    cases t
    have av : _ = V.str z := av
    subst av
    exact ⟨_, _, rfl, ⟨hz, rfl⟩, w _ rfl⟩
/-- sum, any, all -/
theorem ev_sum {ns : List Int} (h : EvA s r t [rLs K (ns.map rInt)] r1) : Ev s r (tCB (rSum K) t) (rInt ns.sum) r1 := ev_cb h fun G H vs sm al W w => by
  cases al with
  | cons av t =>
    cases t
    obtain ⟨z, a, ws, ex, hs, ak⟩ := av
    subst ex
    exact ⟨a, ns, rfl, by rw [← all2_ints ak]; exact sm.seq hs, w _ rfl⟩
theorem all2_bls {G : Hp} : ∀ {vs : List V} {ns : List Bool}, All2 G vs (ns.map rBl) → vs = ns.map V.bl
  | _, [], h => by cases h; rfl
  | _, n :: ns, h => by
    rw [List.map_cons] at h
    cases h with
    | cons a t => rw [all2_bls t, show _ = V.bl n from a]; rfl
theorem ev_any {bs : List Bool} (h : EvA s r t [rLs K (bs.map rBl)] r1) : Ev s r (tCB (rAny K) t) (rBl (bs.any id)) r1 := ev_cb h fun G H vs sm al W w => by
  cases al with
  | cons av t =>
    cases t
    obtain ⟨z, a, ws, ex, hs, ak⟩ := av
    subst ex
    exact ⟨a, bs, rfl, by rw [← all2_bls ak]; exact sm.seq hs, w _ rfl⟩
theorem ev_all {bs : List Bool} (h : EvA s r t [rLs K (bs.map rBl)] r1) : Ev s r (tCB (rAll K) t) (rBl (bs.all id)) r1 := ev_cb h fun G H vs sm al W w => by
  cases al with
  | cons av t =>
    cases t
    obtain ⟨z, a, ws, ex, hs, ak⟩ := av
    subst ex
    exact ⟨a, bs, rfl, by rw [← all2_bls ak]; exact sm.seq hs, w _ rfl⟩
/-- dict(d): a copy that may be written -/
theorem ex_dictD {kvs : List (Key × Pr)} (h : EvA s r t [rDk kvs] r1) : EvX s r (tCB (fun xs H Q => ∃ (a : Addr) (kvs : List (Key × V)), xs = [.ref a] ∧ Rd H a (.dK kvs) ∧ ∀ p, H p = none → Q (.ref p) (upd H p (.dK kvs))) t) (fun P r' => ∃ a, P = rAt a ∧ r' = (a, cDk kvs) :: r1) := fun e G H σ m l W w => h e G H σ m l _ fun vs G1 H1 m1 g1 al => by
  cases al with
  | cons av t =>
    cases t
    obtain ⟨z, a, od, ws, ex, hs, ak⟩ := av
    subst ex
    exact ⟨a, ws, rfl, .inr ⟨od, m1.sub _ _ hs⟩, fun p hp => w _ G1 _ (rAt p) _ ⟨p, rfl, rfl⟩ (m1.own hp ⟨z, ws, rfl, ak⟩) g1 rfl⟩
end
end FL

namespace FL
open PySem PySem.Spec PyProof.Rows L2 StX
/-! ### classes by their attributes' names -/
structure ClsF (K : PySem.W.Frag) (C : Addr) (ns : List Str) : Prop where
  cl : Cls K C
  na : ∀ f ∈ ns, NoAttr K C f
theorem look_mem : ∀ {ns : List Str} {f : Str} {i : Nat}, look ns f = some i → f ∈ ns
  | n :: ns, f, i, h => by
    unfold look at h
    by_cases c : n = f
    · rw [c]; exact List.mem_cons_self
    · rw [if_neg c] at h
      obtain ⟨j, hj, rfl⟩ := Option.map_eq_some_iff.mp h
      exact List.mem_cons_of_mem _ (look_mem hj)
/-- a value's truth as a test, the written part named -/
def tTr (K : PySem.W.Frag) (te : TE) : TT := fun σ H Q => te σ H fun x H' => ∃ k, TruV K x H' k ∧ Q k H'
theorem pt_tr {X : Cx} {K : PySem.W.Frag} {e : Expr} {te : TE} (he : PE X e te) (hs : ∀ whole, isTrue e X.env whole = (do let v ← whole; standAt e.pos; holding [v] (truthy v)) := by intro _; rfl) (hK : X.K = K := by rfl) : PT X e (tTr K te) := by
  subst hK
  exact pt_truth he hs
/-- the classes' places -/
structure Ad where
  (c_Record c_State c_Steps c_Contents c_Knowledge c_Keeper c_Spans c_NoCopy c_BadSpans c_BadWord c_NoAsk c_BadCount c_BadCopies c_BadPiece : Addr)
section
variable {s s' s1 s2 : Sls} {r r' r1 r2 r3 rc rest pre post : Rs} {ta tb te tv td : TE} {t : TA} {P Q R : Pr} {K : PySem.W.Frag} {Φ : Pr → Rs → Prop} {Ps Qs : List Pr} {e : Ent} {po : Po} {i j : Int} {C a : Addr} {ns all : List Str} {f : Str}
theorem ev_f (c : ClsF K C ns) (i : Nat) (h : Ev s r te (rOb C ns Ps) r1) (hl : look ns f = some i := by decide +kernel) (hi : Ps[i]? = some P := by rfl) : Ev s r (tFld K te f) P r1 := ev_fld i h c.cl (c.na f (look_mem hl)) hl hi
theorem ev_fO (c : ClsF K C all) (i : Nat) (h : Ev s r te (rAt a) r1) (hm : (a, cOb C ns Ps) ∈ r1) (hl : look ns f = some i := by decide +kernel) (hi : Ps[i]? = some P := by rfl) (ha : decide (f ∈ all) = true := by decide +kernel) : Ev s r (tFld K te f) P r1 := ev_fldO i h hm c.cl (c.na f (of_decide_eq_true ha)) hl hi
/-- self.f = e in __init__ -/
theorem ok_fN (c : ClsF K C all) (pre : Rs) (hv : Ev s r tv P r1) (ho : Ev s r1 ta (rAt a) (pre ++ (a, cOb C ns Qs) :: post)) (k : po.nx s (pre ++ (a, cOb C (ns ++ [f]) (Qs ++ [P])) :: post)) (hl : look ns f = none := by decide +kernel) (ha : decide (f ∈ all) = true := by decide +kernel) (hz : decide (ns.length < 1000) = true := by decide +kernel) : Ok e s r (sFld K ta tv f) po :=
  ok_fldN hv ho c.cl (c.na f (of_decide_eq_true ha)) hl (of_decide_eq_true hz) k
theorem ok_f (c : ClsF K C all) (i : Nat) (pre : Rs) (hv : Ev s r tv P r1) (ho : Ev s r1 ta (rAt a) (pre ++ (a, cOb C ns Qs) :: post)) (k : po.nx s (pre ++ (a, cOb C ns (Qs.set i P)) :: post)) (hl : look ns f = some i := by decide +kernel) (ha : decide (f ∈ all) = true := by decide +kernel) (hz : decide (ns.length < 1000) = true := by decide +kernel) : Ok e s r (sFld K ta tv f) po :=
  ok_fld i hv ho c.cl (c.na f (of_decide_eq_true ha)) hl (of_decide_eq_true hz) k
/-- a new thing in an attribute: self.f = {} -/
theorem ok_fNX (c : ClsF K C all) (hv : EvX s r tv Φ) (ho : ∀ P r1, Φ P r1 → ∃ pre post, Ev s r1 ta (rAt a) (pre ++ (a, cOb C ns Qs) :: post) ∧ po.nx s (pre ++ (a, cOb C (ns ++ [f]) (Qs ++ [P])) :: post)) (hl : look ns f = none := by decide +kernel) (ha : decide (f ∈ all) = true := by decide +kernel) (hz : decide (ns.length < 1000) = true := by decide +kernel) : Ok e s r (sFld K ta tv f) po := fun G H σ m l D d => hv e G H σ m l _ fun y G1 H1 P r1 f1 m1 g1 py => by
  obtain ⟨pre, post, h1, h2⟩ := ho P r1 f1
  exact h1 e G1 H1 σ m1 (l.mono g1) _ fun x G2 H2 m2 g2 px => by
    obtain ⟨o, ho2, ⟨dx, vs, rfl, z, al⟩⟩ := m2.at_ (List.mem_append_right _ List.mem_cons_self)
    refine ⟨a, C, dx, _, px, ho2, c.cl, c.na f (of_decide_eq_true ha), by have := of_decide_eq_true hz; rw [List.length_zip]; omega, ?_⟩
    rw [put_no hl z]
    exact d.nx _ _ _ _ _ h2 (m2.putAt ⟨dx, _, rfl, by rw [List.length_append, List.length_append, z]; rfl, al.app (.cons (P.m g2 py) .nil)⟩) (g1.trans g2) (l.mono (g1.trans g2))
theorem et_trI (ha : Ev s r ta (rInt i) r1) : EvT s r (tTr K ta) (i != 0) r1 := et_truI ha
/-! ### typed walks -/
theorem ei_enumM {α : Type} {R : α → Pr} {xs : List α} (h : EvA s r t [rLs K (xs.map R)] r1) : EvI s r (iEnum K t) (xs.zipIdx.map fun x => rTs K [rInt (x.2 : Int), R x.1]) r1 := by
  have := ei_enum h
  rw [show enumP K (xs.map R) = xs.zipIdx.map fun x => rTs K [rInt (x.2 : Int), R x.1] from by
    unfold enumP
    rw [List.zipIdx_map, List.map_map]
    rfl] at this
  exact this
theorem ei_rngM {n : Nat} (h : EvA s r t [rInt (n : Int)] r1) (hn : n ≤ sizeLine) : EvI s r (iRng1 t) ((List.range n).map fun (i : Nat) => rInt (i : Int)) r1 := by
  have := ei_rng1 h (by simpa using hn) (by omega)
  rw [show rngP 0 (n : Int).toNat = (List.range n).map fun (i : Nat) => rInt (i : Int) from by
    unfold rngP
    simp] at this
  exact this
/-- [f(x) for x in xs if p(x)]: nothing is written -/
theorem ev_lcF (K : PySem.W.Frag) {α : Type} {R : α → Pr} {xs : List α} {wi : TI} {g : TG} {tt : TT} {vs : List Nat} (f : α → Pr) (p : α → Bool) (hi : EvI s r wi (xs.map R) r1)
    (ht : xs.length ≤ sizeLine → ∀ x ∈ xs, ∃ s2 ws, Bg g (R x) (wipeS s vs) s2 ws ∧ (∀ w ∈ ws, w ∈ vs) ∧ EvT s2 r1 tt (p x) r1 ∧ (p x = true → Ev s2 r1 te (f x) r1)) :
    Ev s r (tLc wi g tt te vs) (rLs K ((xs.filter p).map f)) r1 := by
  refine (ex_lc (K := K) hi (fun i acc r' => acc = ((xs.take i).filter p).map f ∧ r' = r1) ⟨rfl, rfl⟩ fun z i P acc r' hP ⟨ha, hr⟩ => ?_).ev fun P' r'' ⟨acc, ⟨ha, hr⟩, hP⟩ => ⟨by rw [hP, ha, List.length_map, List.take_length], hr⟩
  subst hr
  rw [List.getElem?_map] at hP
  obtain ⟨x, hx, rfl⟩ := Option.map_eq_some_iff.mp hP
  obtain ⟨s2, ws, bg, hw, h1, h2⟩ := ht (by rw [List.length_map] at z; exact z) x (List.mem_of_getElem? hx)
  have st : (xs.take (i + 1)).filter p = (xs.take i).filter p ++ (if p x = true then [x] else []) := by
    rw [List.take_add_one, hx, List.filter_append]
    congr 1
    by_cases c : p x = true
    · simp [c]
    · simp [c]
  refine ⟨s2, ws, bg, hw, p x, r', h1, fun c => ⟨f x, r', h2 c, ?_, rfl⟩, fun c => ⟨?_, rfl⟩⟩
  · rw [ha, st, if_pos c, List.map_append]; rfl
  · rw [ha, st, if_neg (by rw [c]; decide), List.append_nil]
theorem ev_lcM (K : PySem.W.Frag) {α : Type} {R : α → Pr} {xs : List α} {wi : TI} {g : TG} {vs : List Nat} (f : α → Pr) (hi : EvI s r wi (xs.map R) r1)
    (ht : xs.length ≤ sizeLine → ∀ x ∈ xs, ∃ s2 ws, Bg g (R x) (wipeS s vs) s2 ws ∧ (∀ w ∈ ws, w ∈ vs) ∧ Ev s2 r1 te (f x) r1) :
    Ev s r (tLc wi g tYes te vs) (rLs K (xs.map f)) r1 := by
  have h := ev_lcF K (tt := tYes) f (fun _ => true) hi fun z x hx => by
    obtain ⟨s2, ws, bg, hw, hev⟩ := ht z x hx
    exact ⟨s2, ws, bg, hw, fun e G H σ m l Q q => q G H m (Same.refl _), fun _ => hev⟩
  rw [List.filter_eq_self.mpr (fun _ _ => rfl)] at h
  exact h
/-- a for over typed things: the state S of what has been walked -/
theorem ok_forM {α : Type} {R : α → Pr} {xs : List α} {wi : TI} {g : TG} {ts : TS} (S : List α → Sls → Rs → Prop) (hi : EvI s r wi (xs.map R) r1) (h0 : S [] s r1)
    (ht : xs.length ≤ sizeLine → ∀ pre x suf, xs = pre ++ x :: suf → ∀ s' r', S pre s' r' → ∃ s2 vs, Bg g (R x) s' s2 vs ∧ Ok e s2 r' ts { po with nx := S (pre ++ [x]), ct := S (pre ++ [x]), bk := po.nx })
    (hd : ∀ s' r', S xs s' r' → po.nx s' r') : Ok e s r (tFor wi g ts) po := by
  refine ok_for hi (fun i s r => S (xs.take i) s r) h0 (fun z i P s' r' hP hs => ?_) fun s' r' hs => hd s' r' (by rw [List.length_map, List.take_length] at hs; exact hs)
  rw [List.getElem?_map] at hP
  obtain ⟨x, hx, rfl⟩ := Option.map_eq_some_iff.mp hP
  have hl : i < xs.length := (List.getElem?_eq_some_iff.mp hx).1
  have e1 : xs = xs.take i ++ x :: xs.drop (i + 1) := by
    have e2 : xs[i] = x := (List.getElem?_eq_some_iff.mp hx).2
    rw [← e2, List.getElem_cons_drop, List.take_append_drop]
  have e3 : xs.take (i + 1) = xs.take i ++ [x] := by rw [List.take_add_one, hx]; rfl
  obtain ⟨s2, vs, bg, ok⟩ := ht (by rw [List.length_map] at z; exact z) _ x _ e1 s' r' hs
  refine ⟨s2, vs, bg, ?_⟩
  rw [e3]
  exact ok
/-! ### forgetting names -/
inductive Lo : Sls → Sls → Prop
  | nil : Lo [] []
  | keep {P : Pr} {a b : Sls} (h : Lo a b) : Lo (some P :: a) (some P :: b)
  | skip {x : Option Pr} {a b : Sls} (h : Lo a b) : Lo (none :: a) (x :: b)
theorem Lo.len : ∀ {a b : Sls}, Lo a b → a.length = b.length
  | _, _, .nil => rfl
  | _, _, .keep h => congrArg (· + 1) h.len
  | _, _, .skip h => congrArg (· + 1) h.len
theorem Lo.at_ : ∀ {a b : Sls}, Lo a b → ∀ (i : Nat) (P : Pr), a[i]? = some (some P) → b[i]? = some (some P)
  | _, _, .nil, i, P, h => by simp at h
  | _, _, .keep h, 0, P, e => by simpa using e
  | _, _, .keep h, i + 1, P, e => by simpa using h.at_ i P (by simpa using e)
  | _, _, .skip h, 0, P, e => by simp at e
  | _, _, .skip h, i + 1, P, e => by simpa using h.at_ i P (by simpa using e)
theorem Lo.refl : ∀ a : Sls, Lo a a
  | [] => .nil
  | none :: a => .skip (Lo.refl a)
  | some _ :: a => .keep (Lo.refl a)
/-- names at least s, things r -/
def lo (s0 : Sls) (r0 : Rs) : Sls → Rs → Prop := fun s r => Lo s0 s ∧ r = r0
theorem lo_refl : lo s r s r := ⟨Lo.refl s, rfl⟩
theorem Ok.lo {ts : TS} (h : Ok e s' r ts po) (k : Lo s' s) : Ok e s r ts po := h.weak k.len k.at_
theorem ok_seqL {ts us : TS} (s1 : Sls) (r1 : Rs) (h : Ok e s r ts { po with nx := FL.lo s1 r1 }) (k : Ok e s1 r1 us po) : Ok e s r (tSeq ts us) po := ok_seq _ h fun s' r' ⟨a, b⟩ => by subst b; exact Ok.lo k a
theorem ok_forS {α : Type} {R : α → Pr} {xs : List α} {wi : TI} {g : TG} {ts : TS} (S : List α → Sls) (T : List α → Rs) (hi : EvI s r wi (xs.map R) r1) (h0 : Lo (S []) s) (h1 : T [] = r1)
    (ht : xs.length ≤ sizeLine → ∀ pre x suf, xs = pre ++ x :: suf → ∃ s2 vs, Bg g (R x) (S pre) s2 vs ∧ Ok e s2 (T pre) ts { po with nx := FL.lo (S (pre ++ [x])) (T (pre ++ [x])), ct := FL.lo (S (pre ++ [x])) (T (pre ++ [x])), bk := po.nx })
    (hd : ∀ s', Lo (S xs) s' → po.nx s' (T xs)) : Ok e s r (tFor wi g ts) po := by
  have bgw : ∀ {g : TG} {P : Pr} {s0 s1 s2 : Sls} {vs : List Nat}, Lo s0 s1 → Bg g P s0 s2 vs → Bg g P s1 s2 vs := fun {g P s0 s1 s2 vs} k h G H σ v pv sg l Q q => h G H σ v pv sg (l.weak k.len k.at_) Q q
  refine ok_forM (fun pre s r => FL.lo (S pre) (T pre) s r) hi ⟨h0, h1.symm⟩ (fun z pre x suf hx s' r' ⟨a, b⟩ => ?_) fun s' r' ⟨a, b⟩ => by subst b; exact hd s' a
  subst b
  obtain ⟨s2, vs, bg, ok⟩ := ht z pre x suf hx
  exact ⟨s2, vs, bgw a bg, ok⟩
theorem bg1 {i : Nat} : Bg (gName i) P s (s.set i (some P)) [i] := bg_name
theorem bg2 {i j : Nat} {P Q : Pr} : Bg (gTup K 2 (gCons (gName i) (gCons (gName j) gNil))) (rTs K [P, Q]) s ((s.set i (some P)).set j (some Q)) [i, j] := bg_tup (bgs_cons bg_name (bgs_cons bg_name bgs_nil)) rfl
theorem bg3 {i j k : Nat} {P Q R : Pr} : Bg (gTup K 3 (gCons (gName i) (gCons (gName j) (gCons (gName k) gNil)))) (rTs K [P, Q, R]) s (((s.set i (some P)).set j (some Q)).set k (some R)) [i, j, k] := bg_tup (bgs_cons bg_name (bgs_cons bg_name (bgs_cons bg_name bgs_nil))) rfl
theorem in1 {i : Nat} : ∀ w ∈ [i], w ∈ [i] := fun _ h => h
theorem all_in {ws vs : List Nat} (h : (ws.all fun w => vs.contains w) = true := by rfl) : ∀ w ∈ ws, w ∈ vs := fun w hw => by
  rw [List.all_eq_true] at h
  have := h w hw
  simpa using this
end
end FL

namespace FL
open PySem PySem.Spec PyProof.Rows L2 StX FZ
section
variable {s s' s1 s2 : Sls} {r r' r1 r2 r3 rc rest pre post : Rs} {ta tb te tv td : TE} {t : TA} {P Q R : Pr} {K : PySem.W.Frag} {Φ : Pr → Rs → Prop} {Ps Qs Rs' : List Pr} {e : Ent} {po : Po} {i j : Int} {C a : Addr} {ns all : List Str} {f : Str}
/-! ### zip -/
def IsSq (K : PySem.W.Frag) (P : Pr) (Ps : List Pr) : Prop := ∀ G v, P.p G v → Ps.length ≤ sizeLine ∧ ∃ t a vs, v = V.ref a ∧ SqA K G t a vs ∧ All2 G vs Ps
theorem isq_L : IsSq K (rLs K Ps) Ps := fun G v ⟨z, a, vs, e, h, q⟩ => ⟨z, false, a, vs, e, by unfold SqA; rw [if_neg (by decide)]; exact h, q⟩
theorem isq_T : IsSq K (rTs K Ps) Ps := fun G v ⟨z, a, vs, e, h, q⟩ => ⟨z, true, a, vs, e, by unfold SqA; rw [if_pos rfl]; exact h, q⟩
theorem row_get {G : Hp} {i : Nat} : ∀ {qs : List Sq} {Pss : List (List Pr)} {vs : List V}, Paired (fun (q : Sq) Ps => All2 G q.xs Ps) qs Pss → Paired (fun (x : V) (q : Sq) => q.xs[i]? = some x) vs qs → ∃ row, All2 G vs row ∧ Paired (fun (P : Pr) (Ps : List Pr) => Ps[i]? = some P) row Pss
  | _, _, _, .nil, .nil => ⟨[], .nil, .nil⟩
  | _, _, _, .cons a t, .cons b u => by
    obtain ⟨row, h1, h2⟩ := row_get t u
    obtain ⟨P, e1, e2⟩ := a.get b
    exact ⟨P :: row, .cons e2 h1, .cons e1 h2⟩
theorem all_mono {G G' : Hp} (k : Same G G') : ∀ {qs : List Sq} {Pss : List (List Pr)}, Paired (fun (q : Sq) Ps => All2 G q.xs Ps) qs Pss → Paired (fun (q : Sq) Ps => All2 G' q.xs Ps) qs Pss
  | _, _, .nil => .nil
  | _, _, .cons a t => .cons (a.mono k) (all_mono k t)
theorem wk_zip {G0 : Hp} {qs : List Sq} {Pss : List (List Pr)} (rows : List Pr) (hs : ∀ q ∈ qs, SqA K G0 q.t q.l q.xs) (hp : Paired (fun (q : Sq) Ps => All2 G0 q.xs Ps) qs Pss) (hz : rows.length ≤ sizeLine) (hq : qs.length ≤ 100)
    (hl1 : ∀ q ∈ qs, rows.length ≤ q.xs.length) (hl2 : ∃ q ∈ qs, q.xs.length = rows.length) (hr : ∀ (i : Nat) row, Paired (fun (P : Pr) (Ps : List Pr) => Ps[i]? = some P) row Pss → i < rows.length → rows[i]? = some (rTs K row)) : Wk (ItzN K qs) G0 rows where
  z := hz
  go := fun G H i s1 s2 hi q hm => ⟨(hs q hm).same (s1.trans s2), Nat.lt_of_lt_of_le hi (hl1 q hm)⟩
  stop := fun G H s1 s2 => ⟨fun q hm => (hs q hm).same (s1.trans s2), by obtain ⟨q, hm, e⟩ := hl2; exact ⟨q, hm, Nat.le_of_eq e⟩⟩
  yld := fun G H i x H' s1 s2 ⟨T, vs, e1, hT, e2, pv⟩ hi => by
    subst e1; subst e2
    have gT : G T = none := s2.free hT
    obtain ⟨row, al, pr⟩ := row_get (all_mono s1 hp) pv
    refine ⟨upd G T (.tup vs), rTs K row, ⟨same_new gT, fun e r h => h.new hT⟩, hr i row pr hi, ?_, T, vs, rfl, SqT.of upd_same, al.mono (same_new gT)⟩
    rw [← al.len, Paired.length pv]
    exact Nat.le_trans hq (by decide)
theorem ei_z2 {P1 P2 : Pr} (h : EvA s r t [P1, P2] r1) (h1 : IsSq K P1 Ps) (h2 : IsSq K P2 Qs) (hl : Ps.length = Qs.length) : EvI s r (iZ2 K t) ((Ps.zip Qs).map fun x => rTs K [x.1, x.2]) r1 := fun e G H σ m l R q => h e G H σ m l _ fun vs G1 H1 m1 g1 al => by
  cases al with
  | cons a1 t =>
  cases t with
  | cons a2 t =>
    cases t
    obtain ⟨z1, t1, a, xs, e1, s1, p1⟩ := h1 _ _ a1
    obtain ⟨z2, t2, b, ys, e2, s2, p2⟩ := h2 _ _ a2
    subst e1; subst e2
    have n1 : ((Ps.zip Qs).map fun x => rTs K [x.1, x.2]).length = Ps.length := by rw [List.length_map, List.length_zip]; omega
    refine ⟨t1, t2, a, b, xs, ys, rfl, s1.same m1.sub, s2.same m1.sub, fun i j => q _ G1 H1 m1 g1 (wk_zip (Pss := [Ps, Qs]) _ (fun x hx => ?_) (.cons p1 (.cons p2 .nil)) (by rw [n1]; exact z1) (by show 2 ≤ 100; decide) (fun x hx => ?_) ⟨_, List.mem_cons_self, by rw [n1]; exact p1.len⟩ fun k row pr hk => ?_)⟩
    · simp only [List.mem_cons, List.not_mem_nil, or_false] at hx
      rcases hx with rfl | rfl
      · exact s1
      · exact s2
    · simp only [List.mem_cons, List.not_mem_nil, or_false] at hx
      rw [n1]
      rcases hx with rfl | rfl
      · exact Nat.le_of_eq p1.len.symm
      · show _ ≤ ys.length; rw [p2.len]; exact Nat.le_of_eq hl
    · cases pr with
      | cons c1 pr =>
      cases pr with
      | cons c2 pr =>
        cases pr
        rw [List.getElem?_map, show (Ps.zip Qs)[k]? = some (_, _) from List.getElem?_zip_eq_some.mpr ⟨c1, c2⟩]
        rfl
theorem ei_z3 {P1 P2 P3 : Pr} (h : EvA s r t [P1, P2, P3] r1) (h1 : IsSq K P1 Ps) (h2 : IsSq K P2 Qs) (h3 : IsSq K P3 Rs') (hl : Ps.length = Qs.length) (hl' : Ps.length = Rs'.length) : EvI s r (iZ3 K t) ((Ps.zip (Qs.zip Rs')).map fun x => rTs K [x.1, x.2.1, x.2.2]) r1 := fun e G H σ m l R q => h e G H σ m l _ fun vs G1 H1 m1 g1 al => by
  cases al with
  | cons a1 t =>
  cases t with
  | cons a2 t =>
  cases t with
  | cons a3 t =>
    cases t
    obtain ⟨z1, t1, a, xs, e1, s1, p1⟩ := h1 _ _ a1
    obtain ⟨z2, t2, b, ys, e2, s2, p2⟩ := h2 _ _ a2
    obtain ⟨z3, t3, c, zs, e3, s3, p3⟩ := h3 _ _ a3
    subst e1; subst e2; subst e3
    have n1 : ((Ps.zip (Qs.zip Rs')).map fun x => rTs K [x.1, x.2.1, x.2.2]).length = Ps.length := by rw [List.length_map, List.length_zip, List.length_zip]; omega
    refine ⟨t1, t2, t3, a, b, c, xs, ys, zs, rfl, s1.same m1.sub, s2.same m1.sub, s3.same m1.sub, fun i j k => q _ G1 H1 m1 g1 (wk_zip (Pss := [Ps, Qs, Rs']) _ (fun x hx => ?_) (.cons p1 (.cons p2 (.cons p3 .nil))) (by rw [n1]; exact z1) (by show 3 ≤ 100; decide) (fun x hx => ?_) ⟨_, List.mem_cons_self, by rw [n1]; exact p1.len⟩ fun k row pr hk => ?_)⟩
    · simp only [List.mem_cons, List.not_mem_nil, or_false] at hx
      rcases hx with rfl | rfl | rfl
      · exact s1
      · exact s2
      · exact s3
    · simp only [List.mem_cons, List.not_mem_nil, or_false] at hx
      rw [n1]
      rcases hx with rfl | rfl | rfl
      · exact Nat.le_of_eq p1.len.symm
      · show _ ≤ ys.length; rw [p2.len]; exact Nat.le_of_eq hl
      · show _ ≤ zs.length; rw [p3.len]; exact Nat.le_of_eq hl'
    · cases pr with
      | cons c1 pr =>
      cases pr with
      | cons c2 pr =>
      cases pr with
      | cons c3 pr =>
        cases pr
        rw [List.getElem?_map, show (Ps.zip (Qs.zip Rs'))[k]? = some (_, (_, _)) from List.getElem?_zip_eq_some.mpr ⟨c1, List.getElem?_zip_eq_some.mpr ⟨c2, c3⟩⟩]
        rfl
/-! ### several targets, some of them attributes -/
/-- what is done to the state by a store of P -/
def Tg (K : PySem.W.Frag) (g : TG) (P : Pr) (s : Sls) (r : Rs) (s' : Sls) (r' : Rs) : Prop := ∀ e G H σ v, Mv e G H r → SlOk G σ s → P.p G v → ∀ Q : L2.St → Hp → Prop, (∀ σ' G' H', Mv e G' H' r' → Same G G' → SlOk G' σ' s' → Q σ' H') → g v σ H Q
def Tgs (K : PySem.W.Frag) (g : TGs) (Ps : List Pr) (s : Sls) (r : Rs) (s' : Sls) (r' : Rs) : Prop := ∀ e G H σ vs, Mv e G H r → SlOk G σ s → All2 G vs Ps → ∀ Q : L2.St → Hp → Prop, (∀ σ' G' H', Mv e G' H' r' → Same G G' → SlOk G' σ' s' → Q σ' H') → g vs σ H Q
theorem tg_name {i : Nat} : Tg K (gName i) P s r (s.set i (some P)) r := fun e G H σ v m l pv Q q => q _ G H m (Same.refl _) (l.set i pv)
theorem tg_fld (c : ClsF K C all) (i : Nat) (pre : Rs) (ho : Ev s r ta (rAt a) (pre ++ (a, cOb C ns Qs) :: post)) (hl : look ns f = some i := by decide +kernel) (ha : decide (f ∈ all) = true := by decide +kernel) (hz : decide (ns.length < 1000) = true := by decide +kernel) :
    Tg K (gFld K ta f) P s r s (pre ++ (a, cOb C ns (Qs.set i P)) :: post) := fun e G H σ v m l pv Q q => ho e G H σ m l _ fun x G2 H2 m2 g2 px => by
  obtain ⟨o, ho2, ⟨dx, vs, rfl, z, al⟩⟩ := m2.at_ (List.mem_append_right _ List.mem_cons_self)
  refine ⟨a, C, dx, _, px, ho2, c.cl, c.na f (of_decide_eq_true ha), by have := of_decide_eq_true hz; rw [List.length_zip]; omega, ?_⟩
  rw [put_at hl z]
  exact q _ _ _ (m2.putAt ⟨dx, _, rfl, by rw [List.length_set]; exact z, All2.set (P.m g2 pv) i al⟩) g2 (l.mono g2)
theorem tgs_nil : Tgs K gNil [] s r s r := fun e G H σ vs m l al Q q => by
  cases al
  exact ⟨rfl, q _ G H m (Same.refl _) l⟩
theorem tgs_cons {g : TG} {gs : TGs} {s2 : Sls} {r2 : Rs} (h : Tg K g P s r s1 r1) (k : Tgs K gs Ps s1 r1 s2 r2) : Tgs K (gCons g gs) (P :: Ps) s r s2 r2 := fun e G H σ vs m l al Q q => by
  cases al with
  | cons a t => exact ⟨_, _, rfl, h e G H σ _ m l a _ fun σ1 G1 H1 m1 g1 l1 => k e G1 H1 σ1 _ m1 l1 (All2.mono g1 t) _ fun σ2 G2 H2 m2 g2 l2 => q σ2 G2 H2 m2 (g1.trans g2) l2⟩
theorem ok_asgT {gs : TGs} {n : Nat} (h : Ev s r te (rTs K Ps) r1) (k : Tgs K gs Ps s r1 s2 r2) (hn : Ps.length = n) (hk : po.nx s2 r2) : Ok e s r (tAsg te (gTup K n gs)) po := fun G H σ m l D d => h e G H σ m l _ fun v G1 H1 m1 g1 ⟨z, a, vs, ev, hv, al⟩ =>
  ⟨a, vs, ev, SqT.ext hv m1.sub, by rw [al.len, hn], k e G1 H1 σ vs m1 (l.mono g1) al _ fun σ2 G2 H2 m2 g2 l2 => d.nx _ _ _ _ _ hk m2 (g1.trans g2) l2⟩
end
/-! ### a def that is not reached -/
theorem never_ok {P : Program} {w : World} {K : PySem.W.Frag} {mg : Str → Option Value} {base : Heap} {CX : CXT} {k : Nat} {f : Addr} {fd : FuncData} {ps : List Str} : FnOk P w K mg base CX k f fd ps (spP fun _ _ => False) where
  len := fun vs H Q E ⟨_, _, _, h, _⟩ => h.elim
  run := fun A outer s H args us vs Q E _ _ _ _ ⟨_, _, _, h, _⟩ => h.elim
end FL

namespace FL
open PySem PySem.Spec PyProof.Rows L2 StX
/-! ### what the program's text has -/
abbrev nsState : List Str := ["copy_pairs", "piece_length", "time_now", "next_number", "ask_book", "answer_book", "fold_book", "knowledge"]
abbrev nsRecord : List Str := ["seen_at", "mark_told", "weak_told", "length_told", "names_told", "not_marks", "byte_book", "has_head", "is_ended"]
abbrev nsSteps : List Str := ["records", "numbers", "under_book", "meaning_from", "edition_from", "older_from", "group_of", "ring_of", "group_rows", "rings"]
abbrev nsCont : List Str := ["records", "piece_length", "least_of", "members_of", "mark_of", "weak_of", "length_of", "names_of", "not_marks_of", "is_torn", "own_bytes", "piece_bytes", "piece_sizes", "bytes_of"]
abbrev nsKnow : List Str := ["records", "steps", "contents", "world_found"]
abbrev nsKeeper : List Str := ["state", "depth", "trial_number", "trials_begun"]
structure TxK (K : PySem.W.Frag) (mg : Str → Option Value) (A : Ad) : Prop where
  n_len : mg "len" = none
  n_range : mg "range" = none
  n_enumerate : mg "enumerate" = none
  n_sum : mg "sum" = none
  n_tuple : mg "tuple" = none
  n_list : mg "list" = none
  n_sorted : mg "sorted" = none
  n_dict : mg "dict" = none
  n_zip : mg "zip" = none
  n_any : mg "any" = none
  n_all : mg "all" = none
  n_set : mg "set" = none
  n_max : mg "max" = none
  n_min : mg "min" = none
  n_int : mg "int" = none
  n_abs : mg "abs" = none
  n_repr : mg "repr" = none
  sp : ClsF K A.c_Steps nsSteps
  co : ClsF K A.c_Contents nsCont
  kn : ClsF K A.c_Knowledge nsKnow
  ke : ClsF K A.c_Keeper nsKeeper
  st : ClsF K A.c_State nsState
  re : ClsF K A.c_Record nsRecord
/-! ### masks -/
def bitF (n : Nat) : Int := 1 * 2 ^ ((n : Int).toNat)
def reachedF (ms : List Int) : List Int :=
  (List.range ms.length).foldl (fun (f : List Int) m => f.map fun x => if (Builtin.bitAnd x (bitF m) != 0) = true then Builtin.bitOr x (f.getD m 0) else x)
    (ms.zipIdx.map fun x => Builtin.bitOr x.1 (bitF x.2))
theorem reach_len : ∀ (l : List Nat) (f : List Int) {n : Nat}, f.length = n → (l.foldl (fun (f : List Int) m => f.map fun x => if (Builtin.bitAnd x (bitF m) != 0) = true then Builtin.bitOr x (f.getD m 0) else x) f).length = n
  | [], f, n, h => h
  | m :: l, f, n, h => reach_len l _ (by rw [List.length_map]; exact h)
theorem reachedF_len (ms : List Int) : (reachedF ms).length = ms.length := by
  exact reach_len _ _ (by rw [List.length_map, List.length_zipIdx])
end FL

/-! What is never reached needs no walk of its own; comprehensions of any number of clauses whose first source is empty. -/
namespace FN
open PySem PySem.Spec PyProof.Rows L2 FS
section
variable {X : Cx} {e : Expr} {es : List Expr} {st : Stmt} {sts : List Stmt}
def xE : TE := fun _ _ _ => False
def xT : TT := fun _ _ _ => False
def xA : TA := fun _ _ _ => False
def xS : TS := fun _ _ _ => False
def xG : TG := fun _ _ _ _ => False
theorem pe_never : PE X e xE := ⟨fun _ _ _ _ _ _ h => h.elim⟩
theorem pt_never : PT X e xT := ⟨fun _ _ _ _ _ _ h => h.elim⟩
theorem pw_never : PW X e xT := ⟨fun _ _ _ _ _ _ _ h => h.elim⟩
theorem pa_never : PA X es xA := ⟨fun _ _ _ _ _ _ _ h => h.elim⟩
theorem ps_never : PS X st xS := ⟨fun _ _ _ _ _ _ h => h.elim⟩
theorem pss_never : PSs X sts xS := ⟨fun _ _ _ _ _ _ h => h.elim⟩
theorem pg_never : PG X e xG := ⟨fun _ _ _ _ _ _ _ _ _ h => h.elim⟩
theorem pts_never : PTs X es xT := ⟨fun _ _ _ _ _ _ h => h.elim⟩

/-! ### no item at all -/
/-- E's first turn asks its source, and without an item it is through -/
def Quits (prog : Program) (w : World) (E : Expr) (q : Pos) : Prop := ∀ it acc env, (∀ A : Around, A.under (.compLoop E 0 it acc env) = A) ∧ ∃ F : Option Value → Sem Fin,
  (model prog w).den (.compLoop E 0 it acc env) = ((standAt q >>= fun _ => pyNext it >>= F).onRaise (fun x => do noteFrame x env; theTreesLotGoes x)) ∧ F none = pure (.done .next)
theorem quit_loop {prog : Program} {w : World} {A : Around} {R : Result → Shared → Prop} {s : Shared} {E : Expr} {q : Pos} {it acc : Value} {env : Env} (hq : Quits prog w E q)
    (h : wpAny (model prog w) A (pyNext it) (fun r s1 => r = none ∧ R (.ok .next) s1) (notedBy (model prog w) A env fun x s' => R (.error x) s') s) : codeAny (model prog w) A (.compLoop E 0 it acc env) R s := by
  obtain ⟨e0, F, e1, e2⟩ := hq it acc env
  refine codeAny_of_tree ?_
  rw [e0, e1]
  refine wpAny_noted ?_
  refine wpAny_bind (wpAny_standAt (wpAny_bind (wpAny_mono h (fun r s1 hr => ?_) fun _ _ x => x)))
  rw [hr.1, e2]
  exact wpAny_pure hr.2
/-- a comprehension over nothing: D the empty thing that newAcc makes -/
def tE0 (C : Addr → HO) (wi : TI) : TE := fun σ H Q => wi σ H fun J H1 => ∀ D, H1 D = none → J.stop 0 (upd H1 D (C D)) ∧ Q (.ref D) (upd H1 D (C D))
theorem quit_core {pins : List (Addr × Obj)} {s : Shared} {σ : L2.St} {H : Hp} {Q : VK} {E tg iter : Expr} {ifs : List Expr} {rest : List Comprehension} {scope : Scope} {own : List (PySem.Str × Nat)} {pos' : Pos} {wi : TI} {C : Addr → HO} {nw : Sem Value} {ob : Obj} {q : Pos}
    (hc : X.calm = true) (hN : X.N.Nodup) (hcl : clausesOf E = ⟨tg, iter, ifs, 0⟩ :: rest) (hq : Quits X.prog X.w E q)
    (hst : ∀ {A : Around} {R : Result → Shared → Prop} {s : Shared} {it acc : Value} {env : Env}, codeAny (model X.prog X.w) A (.compLoop E 0 it acc env) R s → wpAny (model X.prog X.w) A (pyIter it) (fun it' s' => codeAny (model X.prog X.w) A (.compLoop E 0 it' acc env) R s') (notedBy (model X.prog X.w) A env fun x s' => R (.error x) s') s → codeAny (model X.prog X.w) A (.compStart E 0 it acc env) R s)
    (hnw : ∀ {s : Shared} {W : Value → Shared → Prop}, W (.ref s.heap.objs.size) { s with heap := s.heap.push ob } → wpAny (model X.prog X.w) X.A nw W X.xe s)
    (hob : ∀ {H : Hp} {s : Shared}, Inv X pins σ H s → ObjOk X.prog X.w (upd H s.heap.objs.size (C s.heap.objs.size)) (s.heap.push ob) s.heap.objs.size (C s.heap.objs.size))
    (I : Inv X pins σ H s) (hi : PI X tg iter wi) (ok : BlkOk X.N X.env.scope scope own) (hs : ∀ x, foldedSetIterable iter X.env x = pure x)
    (h : tE0 C wi σ H Q) : wpAny (model X.prog X.w) X.A (comprehension E scope X.env pos' nw false (eval iter X.env)) (EP X pins σ Q) X.xe s := by
  have cells : ∀ y ∈ scope.names, y.2 = .free → ∃ c, X.env.cells.lookup y.1 = some c := fun y hy z => (ok.free y hy z).elim (fun k => I.ok.has _ (.inl k)) fun k => I.ok.has _ (.inr k)
  refine wpAny_comprehension_free (use := none) hcl hs (closure_ok cells) ok.kind (fun y hy z => by rw [ok.uniq y hy, z]) (thn (hi.run pins s σ H _ I h) fun _ s1 h1 => thn h1 fun _ s2 h2 => ?_)
  obtain ⟨it, fp, tn, J, H2, z, I2, T, at2, f2, k⟩ := h2
  subst z
  refine hnw (newEnv_comp ?_)
  have new := hob I2
  generalize hD : s2.heap.objs.size = D at new
  have hDn : H2 D = none := I2.hok.fresh (Nat.le_of_eq hD)
  obtain ⟨stop, fin⟩ := k D hDn
  generalize hs3 : ({ s2 with heap := s2.heap.push ob } : Shared) = s3
  have h3 : s3.heap = s2.heap.push ob := by rw [← hs3]
  have I3 : Inv X pins σ (upd H2 D (C D)) s3 := by
    rw [← hs3]
    exact I2.laid (t' := s2.toks) (fun b o e => Heap.get?_push_of_some _ e) (Nat.le_of_eq hD) new
  have f3 : ∀ b ∈ fp, FpOk X pins (upd H2 D (C D)) b ∧ b < s3.heap.objs.size := fun b hb => by
    have lt : b < s2.heap.objs.size := let ⟨o, e, _⟩ := T.obj _ _ at2 b hb; Heap.lt_size e
    refine ⟨⟨?_, (f2 b hb).2⟩, by rw [h3, Heap.size_push]; exact Nat.lt_succ_of_lt lt⟩
    rw [upd_ne (by rw [← hD]; exact Nat.ne_of_lt lt)]
    exact (f2 b hb).1
  have at3 : tn 0 s3.heap := T.keep _ _ _ at2 fun b _ o e => by rw [h3]; exact Heap.get?_push_of_some _ e
  have I4 := block_start I3 ok hN f3
  show codeAny _ _ (.compStart E 0 (.ref it) (.ref D) (compEnvC scope (cellsFrom (s3.heap.objs.size + 1) scope.names (cloFrom X.env.cells scope.names [])) s3.heap.objs.size X.env)) (compPost (model X.prog X.w) X.A X.xe none (EP X pins σ Q) (.ref D) s3.heap.objs.size) { s3 with heap := pushCells (s3.heap.push { cls := .type "dict", data := .dict #[] }) scope.names }
  generalize hce : compEnvC scope (cellsFrom (s3.heap.objs.size + 1) scope.names (cloFrom X.env.cells scope.names [])) s3.heap.objs.size X.env = ce at I4 ⊢
  have cL : ce.locals = s3.heap.objs.size := by subst hce; rfl
  generalize hH3 : upd H2 D (C D) = H3 at I3 I4 stop fin f3
  generalize hs4 : ({ s3 with heap := pushCells (s3.heap.push { cls := .type "dict", data := .dict #[] }) scope.names } : Shared) = s4 at I4 ⊢
  have at4 : tn 0 s4.heap := T.keep _ _ _ at3 fun b _ o e => by rw [← hs4]; exact pushCells_keeps _ _ _ _ (Heap.get?_push_of_some _ e)
  have loop : codeAny (model X.prog X.w) X.A (.compLoop E 0 (.ref it) (.ref D) ce) (compPost (model X.prog X.w) X.A X.xe none (EP X pins σ Q) (.ref D) s3.heap.objs.size) s4 := by
    refine quit_loop hq ?_
    have td := T.done (X.blk s3 H3 scope ce fp) rfl rfl rfl hc 0 [] s4 _ H3 (fun _ _ => False) I4 (fun b hb => ⟨(f3 b hb).1.1, (I4.ok.exf b hb).1, I4.ok.exfs b hb, .inl hb, fun x c e => (I4.ok.exf b hb).2 x c e, fun p hp => absurd (show p ∈ ([] : List (Addr × Obj)) ++ [] from hp) (by simp)⟩) at4 stop
    refine thnF td fun r s6 ⟨hr, I6⟩ => ⟨hr, ?_⟩
    have I7 : Inv X pins σ H3 s6 := I3.call' (ch := fp) I6.os I6.base I6.hok I6.bare fun b hb => ⟨(f3 b hb).1.2.2.2.1, (f3 b hb).1.2.1, (f3 b hb).1.2.2.2.2.1, (f3 b hb).1.2.2.2.2.2⟩
    have nC : H3 s3.heap.objs.size = none := by
      have := I6.free
      rw [show (X.blk s3 H3 scope ce fp).env.locals = s3.heap.objs.size from cL] at this
      exact this
    obtain ⟨m, hn, _⟩ := I6.loc
    have hn : s6.heap.Ns ce.locals m := hn
    rw [cL] at hn
    refine ⟨m, hn, fun h'' sb => ?_⟩
    obtain ⟨g0, g1, g2, g3, g4, g5⟩ := I3.fpOk (Nat.le_refl _) nC
    exact ⟨.ref D, H3, I7.turned (t' := s6.toks) (fun b o hb e => (sb.2 b hb).trans e) g0 g1 g3 g4 g5, rfl, fin⟩
  exact hst loop (T.self X.A 0 _ _ _ at4 loop)
variable {kx vx elt tg iter : Expr} {ifs : List Expr} {rest : List Comprehension} {scope : Scope} {own : List (PySem.Str × Nat)} {pos : Pos} {wi : TI}
theorem pe_dcE (hc : X.calm = true) (hN : X.N.Nodup) (hi : PI X tg iter wi) (ok : BlkOk X.N X.env.scope scope own) (hs : ∀ x, foldedSetIterable iter X.env x = pure x := by intro _; rfl) :
    PE X (.DictComp kx vx (⟨tg, iter, ifs, 0⟩ :: rest) scope pos) (tE0 (fun _ => .dK []) wi) := by
  refine ⟨fun pins s σ H Q I h => ?_⟩
  rw [arm_eval_DictComp]
  exact quit_core (q := iter.pos) (ob := { cls := .type "dict", data := .dict #[] }) hc hN rfl (fun it acc env => ⟨fun _ => rfl, _, rfl, rfl⟩) (fun a b => codeAny_compStart_dict a b) (fun k => wpAny_newObj_type k) (fun I => dk_empty _ I.big) I hi ok hs h
theorem pe_scE (hc : X.calm = true) (hN : X.N.Nodup) (hi : PI X tg iter wi) (ok : BlkOk X.N X.env.scope scope own) (hs : ∀ x, foldedSetIterable iter X.env x = pure x := by intro _; rfl) :
    PE X (.SetComp elt (⟨tg, iter, ifs, 0⟩ :: rest) scope pos) (tE0 (fun D => SetSO X.prog X.w D []) wi) := by
  refine ⟨fun pins s σ H Q I h => ?_⟩
  show wpAny _ _ (comprehension (.SetComp elt (⟨tg, iter, ifs, 0⟩ :: rest) scope pos) scope X.env (firstIterPos (⟨tg, iter, ifs, 0⟩ :: rest) pos) (newSet (.type "set")) false (eval iter X.env)) _ _ s
  exact quit_core (q := iter.pos) (ob := { cls := .type "set", dict := none, data := .set #[] 0 (.fresh 0 0 (!X.w.params.followText "set-order")) }) hc hN rfl (fun it acc env => ⟨fun _ => rfl, _, rfl, rfl⟩) (fun a b => PpSet.codeAny_compStart_set a b) (fun k => PpSet.newSet_ok k) (fun I => setSO_ok (fresh_set (Heap.get?_push_size _ rfl))) I hi ok hs h
end
end FN

/-! dict(xs) of a tuple of pairs. -/
namespace FT
open PySem PySem.Spec PyProof.Rows L2
theorem pick {α β : Type} : ∀ {l : List α} {F : Nat → α → β → Prop}, (∀ j q, l[j]? = some q → ∃ u, F j q u) → ∃ us : List β, us.length = l.length ∧ ∀ j q u, l[j]? = some q → us[j]? = some u → F j q u
  | [], F, _ => ⟨[], rfl, fun j q u e => by simp at e⟩
  | x :: l, F, h => by
    obtain ⟨u, hu⟩ := h 0 x rfl
    obtain ⟨us, hl, hs⟩ := pick (l := l) (F := fun j => F (j + 1)) fun j q e => h (j + 1) q (by simpa using e)
    refine ⟨u :: us, by simp [hl], fun j q v e1 e2 => ?_⟩
    cases j with
    | zero => cases e1; cases e2; exact hu
    | succ j => exact hs j q v (by simpa using e1) (by simpa using e2)
/-- the tuple at a, which has no attributes of its own -/
def PlT (H : Hp) (a : Addr) (xs : List V) : Prop := ∃ od, H a = some (.frz od (.tup xs)) ∧ od.dict = none
theorem PlT.sq {K : PySem.W.Frag} {H : Hp} {a : Addr} {xs : List V} (h : PlT H a xs) : SqT K H a xs := let ⟨od, e, _⟩ := h; .inl (.inr ⟨od, e⟩)
theorem call_dictT {X : Cx} (hcalm : X.calm = true) : CallR X (.type "dict") (fun xs H Q => ∃ (a : Addr) (ps : List Addr) (kvs : List (Key × V)), xs = [.ref a] ∧ PlT H a (ps.map V.ref) ∧ Paired (fun p kv => SqT X.K H p [kV kv.1, kv.2]) ps kvs ∧
    ∀ p, H p = none → Q (.ref p) (upd H p (.dK (mergeK [] kvs)))) := by
  rintro pins s σ H xs us Q I r ⟨a, ps, kvs, rfl, ⟨od, hq, hdn⟩, hp, q⟩
  obtain ⟨u, rfl, rx⟩ := vals1 r
  cases rx
  obtain ⟨hod, hz, its, rv, o, ho, hc, n, hdat⟩ := I.hok _ _ hq
  rw [hod] at ho
  cases ho
  obtain ⟨prs, rel, hl, hpr⟩ := pairs_of I hp
  have hs := refs_at rv
  subst hs
  rw [List.length_map] at hz
  obtain ⟨us, ul, uj⟩ := pick (F := fun j (q : Key × Value) (u : Value) => ∃ b : Addr, ps[j]? = some b ∧ IsTup s.heap b #[u, q.2] ∧ keyIs q.1 u = true) fun j q e => let ⟨b, u, h⟩ := hpr j q e; ⟨u, b, h⟩
  have zl : us.length = prs.length := ul
  have zj : ∀ j (e : Value × Value), (us.zip (prs.map (·.2)))[j]? = some e → ∃ q : Key × Value, prs[j]? = some q ∧ us[j]? = some e.1 ∧ e.2 = q.2 := fun j e h => by
    obtain ⟨h1, h2⟩ := List.getElem?_zip_eq_some.mp h
    rw [List.getElem?_map, Option.map_eq_some_iff] at h2
    obtain ⟨q, h3, h4⟩ := h2
    exact ⟨q, h3, h1, h4.symm⟩
  have wl : (us.zip (prs.map (·.2))).length = prs.length := by rw [List.length_zip, List.length_map, zl, Nat.min_self]
  refine PySem.call_dict_pairs (knd := mixKind X.prog X.w) (kvs := prs) (PairArg.tuple (prog := X.prog) (w := X.w) a (ps.map Value.ref).toArray (fun j => ps.getD j 0) (us.zip (prs.map (·.2)))) (I.ok.hd hcalm) ⟨⟨od, n, hod, hc, hdn, hdat⟩, by simp [zl, hl], fun j k v e => ?_⟩ ⟨wl.symm, fun i key v e => ?_⟩ (by rw [wl, hl]; exact hz) fun h' tk hd' k => ?_
  · obtain ⟨q, h1, h2, h3⟩ := zj j _ e
    obtain ⟨b, e1, e2, e3⟩ := uj j q _ h1 h2
    dsimp only at h3 e2
    subst h3
    exact ⟨by simp [e1], .inl (by simp only [List.getD_eq_getElem?_getD, e1, Option.getD_some]; exact e2)⟩
  · obtain ⟨q, h1, h2, h3⟩ := zj i _ e
    obtain ⟨b, e1, e2, e3⟩ := uj i q _ h1 h2
    dsimp only at h3
    subst h3
    exact ⟨q.1, h1, e3⟩
  · have hm : (s.heap.objs.size == sysModules) = false := beq_eq_false_iff_ne.mpr (Nat.ne_of_gt I.big)
    have hlen : (mergeK [] kvs).length ≤ sizeLine := by
      refine Nat.le_trans (length_mergeK kvs []) ?_
      rw [List.length_nil, Nat.zero_add, rel.length, hl]
      exact hz
    exact ⟨.ref s.heap.objs.size, upd H s.heap.objs.size (.dK (mergeK [] kvs)), I.laid (t' := tk) (fun b o e => k b o (fun z => nomatch z) e) (Nat.le_refl _) (show ObjOk X.prog X.w _ _ _ (.dK (mergeK [] kvs)) from ⟨hlen, hm, merged [] prs, KV.merge rel .nil, hd'⟩), rfl, q _ (I.hok.fresh (Nat.le_refl _))⟩
end FT
namespace FT
open PySem PySem.Spec PyProof.Rows L2
section
variable {X : Cx} {a e : Expr} {ta td : TE} {p pos apos cpos : Pos}
/-- tuple(xs) of a list: the tuple as it is made -/
def tTupQ (K : PySem.W.Frag) (ta : TE) : TE := fun σ H Q => ta σ H fun x H1 => ∃ p xs, x = .ref p ∧ SqL K H1 p xs ∧ ∀ q od, od.dict = none → H1 q = none → Q (.ref q) (upd H1 q (.frz od (.tup xs)))
theorem pe_tupQ (hg : Gl X "tuple") (hm : X.mg "tuple" = none) (ha : PE X a ta) (na : starEach [a] X.env = (false, eval a X.env) :: starEach [] X.env := by rfl) :
    PE X (.Call (.Name "tuple" p) [a] [] pos) (tTupQ X.K ta) := by
  refine ⟨fun pins s σ H Q I h => ?_⟩
  refine Call_ (ld_blt I hg hm boot_tuple (PyProof.Rows.callWith_type1 (one_arg ha I h (fun v s2 x H2 I2 r q => ?_) na) na))
  obtain ⟨l, xs, rfl, hs, q⟩ := q
  cases r
  obtain ⟨its, rv, pl, hz⟩ := I2.list hs
  refine call_tuple_list pl.isList (fun h' hk => ?_) (by rw [List.size_toArray, ← rv.length]; exact hz)
  have I3 : Inv X pins σ H2 { s2 with heap := h' } := I2.kept (t' := s2.toks) hk
  refine ⟨.ref h'.objs.size, upd H2 h'.objs.size (.frz { cls := .type "tuple", data := .seq its.toArray } (.tup xs)), I3.laid (t' := s2.toks) (fun b o e => Heap.get?_push_of_some _ e) (Nat.le_refl _) ⟨Heap.get?_push_size _ rfl, hz, its, rv, IsTup.new _ _⟩, rfl, q _ _ rfl (I3.hok.fresh (Nat.le_refl _))⟩
/-- d.values(), as a thing of its own -/
def vw (p d : Addr) : HO := .ext fun h => h.get? p = some { cls := .type "dict_values", data := .fields #[.ref d] }
def tVals (td : TE) : TE := fun σ H Q => td σ H fun x H1 => ∃ d o kvs, x = .ref d ∧ H1 d = some (.frz o (.dK kvs)) ∧ ∀ p, H1 p = none → Q (.ref p) (upd H1 p (vw p d))
theorem pe_vals (he : PE X e td) (hbase : attributeBase e "values" X.env (eval e X.env) = eval e X.env := by rfl) (hline : (apos.endLine == cpos.line) = true := by rfl) : PE X (.Call (.Attribute e "values" apos) [] [] cpos) (tVals td) := by
  refine ⟨fun pins s σ H R I h => ?_⟩
  rw [show eval (.Call (.Attribute e "values" apos) [] [] cpos) X.env = eval (.Call (.Attribute e "values" apos) [] [] cpos) X.env from rfl]
  refine wpAny_mono (wpAny_Call_method (Q := EP X pins σ R) (E := X.xe) (T := "dict") (id := "dict.values") hbase rfl hline F.plainAttrs_dict F.slot_dict_values F.type_dict_values (thn (he.run pins s σ H _ I h) fun u s1 ⟨x, H1, I1, rx, d, o, kvs, ex, hd, q⟩ => ?_)) (fun _ _ z => z) fun _ _ z => z
  subst ex
  cases rx
  obtain ⟨hs, hgd, hx, es, ep, vs, hdt, hsz, kv, hm⟩ := I1.frzK hd
  refine ⟨hm.dictOf.typeIs, hm.dictOf.mapOf.noDict, ?_⟩
  show wpAny _ _ (callWith cpos (.builtin "dict.values") [.ref d] [] []) _ X.xe s1
  refine method_meetsIn F.slot_dict_values F.entry_dict_values rfl (PySem.evalArgs_none ⟨rfl, hm.dictOf.typeIs, F.args_dict_values_1 _, _, meets_dict_values (mixKind X.prog X.w) d hs, ⟨vs, hm.dictOf⟩, ?_⟩)
  refine ⟨.ref s1.heap.objs.size, upd H1 s1.heap.objs.size (vw s1.heap.objs.size d), I1.laid (t' := s1.toks) (fun b ob e => Heap.get?_push_of_some _ e) (Nat.le_refl _) ⟨Heap.get?_push_size _ rfl, ⟨_, Heap.get?_push_size _ rfl⟩, fun h1 h2 a b => b _ a⟩, rfl, q _ (I1.hok.fresh (Nat.le_refl _))⟩
/-- list(d.values()) -/
theorem call_listVw (hcalm : X.calm = true) : CallR X (.type "list") (fun xs H Q => ∃ (p d : Addr) (o : Obj) (kvs : List (Key × V)), xs = [.ref p] ∧ H p = some (vw p d) ∧ H d = some (.frz o (.dK kvs)) ∧ ∀ p, H p = none → Q (.ref p) (upd H p (.lst (kvs.map (·.2))))) := by
  rintro pins s σ H xs us Q I r ⟨p, d, o, kvs, rfl, hp, hd, q⟩
  obtain ⟨u, rfl, rx⟩ := vals1 r
  cases rx
  obtain ⟨hs, hgd, hx, es, ep, vs, hdt, hsz, rel, hm⟩ := I.frzK hd
  have hv0 := (I.hok _ _ hp).1
  have z : kvs.length ≤ sizeLine := (I.hok _ _ hd).2.1
  refine PySem.W.kdl_call (PySem.W.kdl_values (knd := mixKind X.prog X.w) (r := p) (d := d) (kvs := vs) (ep := ep)) (I.ok.hd hcalm) ⟨⟨_, hv0, rfl, rfl⟩, hm⟩ (by rw [← Paired.length rel]; exact z) fun h' tk acc c' hk hD hacc => ?_
  have hv : Vals (kvs.map (·.2)) acc.toList := by
    have l0 : kvs.length = vs.length := Paired.length rel
    have l1 : acc.toList = vs.map (·.2) := by
      refine List.ext_getElem? fun j => ?_
      by_cases lt : j < acc.toList.length
      · rw [List.getElem?_eq_getElem lt]
        obtain ⟨k, e⟩ := hacc.2 j _ (by rw [← Array.getElem?_toList]; exact List.getElem?_eq_getElem lt)
        rw [List.getElem?_map, e]; rfl
      · have e1 : acc.toList.length = vs.length := by rw [Array.length_toList]; exact hacc.1
        rw [List.getElem?_eq_none (Nat.le_of_not_lt lt), List.getElem?_eq_none (by rw [List.length_map, ← e1]; exact Nat.le_of_not_lt lt)]
    rw [l1]
    have : ∀ {a : List (Key × V)} {b : List (Key × Value)}, KV a b → Vals (a.map (·.2)) (b.map (·.2)) := fun h => by
      induction h with
      | nil => exact .nil
      | cons x _ ih => exact .cons x.2 ih
    exact this rel
  exact ⟨.ref s.heap.objs.size, upd H s.heap.objs.size (.lst (kvs.map (·.2))), I.laid (t' := tk) hk (Nat.le_refl _) (show ObjOk X.prog X.w _ _ _ (.lst (kvs.map (·.2))) from ⟨by rw [List.length_map]; exact z, acc.toList, c', hv, by rw [Array.toArray_toList]; exact hD⟩), rfl, q _ (I.hok.fresh (Nat.le_refl _))⟩
/-! ### several things are frozen -/
def Frzs : List Addr → Hp → (Hp → Prop) → Prop
  | [], H, W => W H
  | d :: ds, H, W => ∃ u, H d = some u ∧ Mut (some u) ∧ ∀ od, Frzs ds (upd H d (.frz od u)) W
def tFrzA (t : TE) : TE := fun σ H Q => t σ H fun v H1 => ∃ ds, Frzs ds H1 fun H2 => Q v H2
end
end FT

namespace FL
open PySem PySem.Spec PyProof.Rows L2 StX FN FT FS FZ
/-! ### several dicts frozen -/
theorem pe_frzA {X : Cx} {e : Expr} {t : TE} (h : PE X e t) : PE X e (tFrzA t) := by
  refine ⟨fun pins s σ H Q I hw => ?_⟩
  refine thn (h.run pins s σ H _ I hw) fun v s1 ⟨x, H1, I1, r, ds, q⟩ => ?_
  have go : ∀ (ds : List Addr) (H1 : Hp), Inv X pins σ H1 s1 → Frzs ds H1 (fun H2 => Q x H2) → ∃ H2, Inv X pins σ H2 s1 ∧ Q x H2 := fun ds => by
    induction ds with
    | nil => exact fun H1 I1 q => ⟨H1, I1, q⟩
    | cons d ds ih =>
      rintro H1 I1 ⟨u, hd, mu, q⟩
      obtain ⟨od, I2⟩ := I1.lock hd mu
      exact ih _ I2 (q od)
  obtain ⟨H2, I2, q2⟩ := go ds H1 I1 q
  exact ⟨x, H2, I2, r, q2⟩
/-- what is known of a thing that may be written is told otherwise -/
theorem Mv.up {e : Ent} {G H : Hp} {pre post : Rs} {p : Addr} {C C' : Co} (h : Mv e G H (pre ++ (p, C) :: post)) (k : ∀ o, C.p G o → C'.p G o) : Mv e G H (pre ++ (p, C') :: post) := by
  refine ⟨h.gg, fun a o q hn => h.hh a o q hn, h.sub, h.nw, fun x hx => ?_, ?_⟩
  · rcases List.mem_append.mp hx with z | z
    · exact h.rs x (List.mem_append_left _ z)
    · rcases List.mem_cons.mp z with z | z
      · subst z
        obtain ⟨o, a, b, c⟩ := h.rs (p, C) (List.mem_append_right _ List.mem_cons_self)
        exact ⟨o, a, k o b, c⟩
      · exact h.rs x (List.mem_append_right _ (List.mem_cons_of_mem _ z))
  · have := h.nd
    unfold dom at this ⊢
    rw [List.map_append, List.map_cons] at this ⊢
    exact this
/-- a plain tuple -/
def rTq (Ps : List Pr) : Pr := ⟨fun G v => Ps.length ≤ sizeLine ∧ ∃ a od vs, v = .ref a ∧ G a = some (.frz od (.tup vs)) ∧ od.dict = none ∧ All2 G vs Ps, fun k ⟨z, a, od, vs, e, h, d, q⟩ => ⟨z, a, od, vs, e, k _ _ h, d, q.mono k⟩⟩
def rTop : Pr := ⟨fun _ _ => True, fun _ h => h⟩
/-- an address -/
def rRef : Pr := ⟨fun _ v => ∃ a, v = .ref a, fun _ h => h⟩
theorem putP_new {κ : Type} [DecidableEq κ] {kvs : List (κ × Pr)} {k : κ} {P : Pr} (h : k ∉ kvs.map (·.1)) : putP kvs k P = kvs ++ [(k, P)] := by
  unfold putP
  rw [if_neg]
  intro z
  obtain ⟨x, hx, e⟩ := List.any_eq_true.mp z
  exact h (List.mem_map.mpr ⟨x, hx, of_decide_eq_true e⟩)
theorem putK_new {kvs : List (Key × V)} {k : Key} {v : V} (h : k ∉ kvs.map (·.1)) : putK kvs k v = kvs ++ [(k, v)] := by
  unfold putK
  rw [if_neg]
  intro z
  obtain ⟨x, hx, e⟩ := List.any_eq_true.mp z
  exact h (List.mem_map.mpr ⟨x, hx, of_decide_eq_true e⟩)
theorem merge_new : ∀ (kvs acc : List (Key × V)), ((acc ++ kvs).map (·.1)).Nodup → mergeK acc kvs = acc ++ kvs
  | [], acc, _ => by rw [List.append_nil]; rfl
  | kv :: kvs, acc, h => by
    show mergeK (putK acc kv.1 kv.2) kvs = _
    rw [putK_new, merge_new kvs (acc ++ [(kv.1, kv.2)]) (by simpa using h)]
    · simp
    · rw [List.map_append, List.map_cons] at h
      intro z
      exact (List.nodup_append.mp h).2.2 _ z _ List.mem_cons_self rfl
section
variable {s s' s1 s2 : Sls} {r r' r1 r2 r3 rc rest pre post : Rs} {ta tb te tv td : TE} {t : TA} {P Q R : Pr} {K : PySem.W.Frag} {Φ : Pr → Rs → Prop} {Ps Qs : List Pr} {e : Ent} {po : Po} {i j : Int} {b b' : Bool} {z z' : Str} {tt : TT} {wi : TI} {g : TG} {ts : TS}
theorem rTq_ts {G : Hp} {v : V} (h : (rTq Ps).p G v) : (rTs K Ps).p G v := let ⟨z, a, od, vs, e, hg, _, q⟩ := h; ⟨z, a, vs, e, .inl (.inr ⟨od, hg⟩), q⟩
theorem ev_tq (h : Ev s r te (rTq Ps) r1) : Ev s r te (rTs K Ps) r1 := h.imp fun _ _ => rTq_ts
theorem ev_tupQ (h : Ev s r ta (rLs K Ps) r1) : Ev s r (tTupQ K ta) (rTq Ps) r1 := fun e G H σ m l W w => h e G H σ m l _ fun x G1 H1 m1 g1 ⟨z, a, vs, ex, hs, al⟩ =>
  ⟨a, vs, ex, m1.sub.seq hs, fun q od hd hq => w _ (upd G1 q (.frz od (.tup vs))) _ (m1.new hq) (g1.trans (same_new (m1.sub.free hq))) ⟨z, q, od, vs, rfl, upd_same, hd, al.mono (same_new (m1.sub.free hq))⟩⟩
/-- the pairs of a dict -/
def pairsP (K : PySem.W.Frag) (kvs : List (Key × Pr)) : List Pr := kvs.map fun kv => rTs K [rV (kV kv.1), kv.2]
theorem pairs_at {G : Hp} : ∀ {vs : List V} {kvs : List (Key × Pr)}, All2 G vs (pairsP K kvs) → ∃ (ps : List Addr) (ks : List (Key × V)), vs = ps.map V.ref ∧ Paired (fun p kv => SqT K G p [kV kv.1, kv.2]) ps ks ∧ AllK G ks kvs
  | _, [], .nil => ⟨[], [], rfl, .nil, .nil⟩
  | _, kv :: kvs, .cons (a := v) h t => by
    obtain ⟨ps, ks, e1, h1, h2⟩ := pairs_at t
    obtain ⟨_, a, ws, e2, hs, al⟩ := h
    cases al with
    | cons x al =>
      cases al with
      | cons y al =>
        cases al
        subst e2 e1
        have hx : _ = kV kv.1 := x
        subst hx
        exact ⟨a :: ps, (kv.1, _) :: ks, rfl, .cons hs h1, .cons ⟨rfl, y⟩ h2⟩
theorem allk_keys {G : Hp} {κ : Type} : ∀ {ks : List (κ × V)} {kvs : List (κ × Pr)}, AllK G ks kvs → ks.map (·.1) = kvs.map (·.1)
  | _, _, .nil => rfl
  | _, _, .cons a t => by rw [List.map_cons, List.map_cons, a.1, allk_keys t]
theorem sqt_same {G H : Hp} (k : Same G H) : ∀ {ps : List Addr} {ks : List (Key × V)}, Paired (fun p kv => SqT K G p [kV kv.1, kv.2]) ps ks → Paired (fun p kv => SqT K H p [kV kv.1, kv.2]) ps ks
  | _, _, .nil => .nil
  | _, _, .cons a t => .cons (SqT.ext a k) (sqt_same k t)
/-- dict(xs) of a tuple of pairs with different keys -/
theorem ex_dictT {kvs : List (Key × Pr)} (h : EvA s r t [rTq (pairsP K kvs)] r1) (hn : (kvs.map (·.1)).Nodup) : EvX s r (tCB (fun xs H Q => ∃ (a : Addr) (ps : List Addr) (kvs : List (Key × V)), xs = [.ref a] ∧ PlT H a (ps.map V.ref) ∧ Paired (fun p kv => SqT K H p [kV kv.1, kv.2]) ps kvs ∧
    ∀ p, H p = none → Q (.ref p) (upd H p (.dK (mergeK [] kvs)))) t) (fun P r' => ∃ a, P = rAt a ∧ r' = (a, cDk kvs) :: r1) := fun e G H σ m l W w => h e G H σ m l _ fun vs G1 H1 m1 g1 al => by
  cases al with
  | cons av al =>
    cases al
    obtain ⟨z, a, od, ws, ex, hs, hd, ak⟩ := av
    obtain ⟨ps, ks, e1, h1, h2⟩ := pairs_at ak
    subst ex e1
    refine ⟨a, ps, ks, rfl, ⟨od, m1.sub _ _ hs, hd⟩, sqt_same m1.sub h1, fun p hp => ?_⟩
    rw [merge_new ks [] (by rw [List.nil_append, allk_keys h2]; exact hn), List.nil_append]
    exact w _ G1 _ (rAt p) _ ⟨p, rfl, rfl⟩ (m1.own hp ⟨by unfold pairsP at z; rwa [List.length_map] at z, ks, rfl, h2⟩) g1 rfl
/-- a fresh thing, used at once -/
theorem ev_frX {kvs : List (Key × Pr)} (h : EvX s r te (fun P r' => ∃ a, P = rAt a ∧ r' = (a, cDk kvs) :: r1)) : Ev s r (tFrz te) (rDk kvs) r1 := fun e G H σ m l W w => h e G H σ m l _ fun v G1 H1 P r' f m1 g1 pv => by
  obtain ⟨a, rfl, rfl⟩ := f
  obtain ⟨o, ho, ⟨hz, vs, rfl, al⟩⟩ := m1.at_ List.mem_cons_self
  obtain ⟨_, _, _, gn, _⟩ := m1.rs _ List.mem_cons_self
  exact ⟨a, _, pv, ho, True.intro, fun od => w v _ _ m1.freezeD (g1.trans (same_new gn)) ⟨hz, a, od, vs, pv, upd_same, al.mono (same_new gn)⟩⟩
/-! ### over nothing -/
theorem ex_dcE (hi : EvI s r wi [] r1) : EvX s r (tE0 (fun _ => .dK []) wi) (fun P r' => ∃ a, P = rAt a ∧ r' = (a, cDk []) :: r1) := fun e G H σ m l W w => hi e G H σ m l _ fun J G1 H1 m1 g1 wk D hD =>
  ⟨wk.stop G1 _ (Same.refl _) (m1.sub.trans (same_new hD)), w _ G1 _ (rAt D) _ ⟨D, rfl, rfl⟩ (m1.own hD ⟨Nat.zero_le _, [], rfl, .nil⟩) g1 rfl⟩
theorem ev_dcE (hi : EvI s r wi [] r1) : Ev s r (tFrz (tE0 (fun _ => .dK []) wi)) (rDk []) r1 := ev_frX (ex_dcE hi)
theorem ev_sortedE {Pg : Program} {wo : World} (hi : EvI s r wi [] r1) : Ev s r (tCB (rSortedSS Pg wo) (tCons (tE0 (fun D => SetSO Pg wo D []) wi) tNil)) (rLs K []) r1 := fun e G H σ m l W w => hi e G H σ m l _ fun J G1 H1 m1 g1 wk D hD => by
  have m2 := m1.hid (o := SetSO Pg wo D []) hD
  refine ⟨wk.stop G1 _ (Same.refl _) (m1.sub.trans (same_new hD)), D, [], rfl, upd_same, by decide, fun ys p pm _ hp => ?_⟩
  have : ys = [] := List.Perm.eq_nil pm
  subst this
  exact w _ (upd G1 p (.lst [])) _ (m2.new hp) (g1.trans (same_new (m2.sub.free hp))) ⟨Nat.zero_le _, p, [], rfl, SqL.of upd_same, .nil⟩
theorem ev_lcE {vs : List Nat} {tt : TT} (K : PySem.W.Frag) (hi : EvI s r wi [] r1) : Ev s r (tLc wi g tt te vs) (rLs K []) r1 := ev_lcF K (α := Pr) (R := id) (xs := []) id (fun _ => true) hi fun _ x hx => nomatch hx
theorem ok_forE (hi : EvI s r wi [] r1) (k : po.nx s r1) : Ok e s r (tFor wi g ts) po := ok_forM (α := Pr) (R := id) (xs := []) (fun _ s' r' => s' = s ∧ r' = r1) hi ⟨rfl, rfl⟩ (fun _ _ x _ hx => absurd hx (by simp)) fun s' r' ⟨a, b⟩ => by subst a; subst b; exact k
/-- d[(..)] = v, a dict with tuples as keys -/
theorem ok_dputT {a : Addr} {kvs : List (List Key × Pr)} {ks : List Key} {tr : TA} (hv : Ev s r tv P r1) (hd : Ev s r1 td (rAt a) r2) (hk : EvA s r2 tr (ks.map fun k => rV (kV k)) (pre ++ (a, cDt kvs) :: post)) (hz : kvs.length < sizeLine) (hkz : ks.length ≤ 1000) (kk : po.nx s (pre ++ (a, cDt (putP kvs ks P)) :: post)) :
    Ok e s r (sDPut td (tTup tr) tv) po := fun G H σ m l D d => hv e G H σ m l _ fun v G1 H1 m1 g1 pv => hd e G1 H1 σ m1 (l.mono g1) _ fun x G2 H2 m2 g2 px => hk e G2 H2 σ m2 (l.mono (g1.trans g2)) _ fun ys G3 H3 m3 g3 py => by
  have ey : ys = ks.map kV := by
    have : ∀ {ys : List V} {ks : List Key}, All2 G3 ys (ks.map fun k => rV (kV k)) → ys = ks.map kV := fun {ys ks} h => by
      induction ks generalizing ys with
      | nil => cases h; rfl
      | cons k ks ih => cases h with
        | cons a t => rw [List.map_cons, ← ih t]; exact congrArg (· :: _) a
    exact this py
  subst ey
  refine ⟨by rw [List.length_map]; exact Nat.le_trans hkz (by decide), fun p hp => ?_⟩
  have m4 := m3.new (o := .tup (ks.map kV)) hp
  have g4 : Same G3 (upd G3 p (.tup (ks.map kV))) := same_new (m3.sub.free hp)
  obtain ⟨o, ho, ⟨_, vs, rfl, al⟩⟩ := m4.at_ (List.mem_append_right _ List.mem_cons_self)
  exact ⟨a, _, px, .inr ⟨vs, ks, p, ho, rfl, upd_same, by rw [al.len]; exact hz, rfl⟩, d.nx _ _ _ _ _ kk (m4.putAt ⟨by have := length_putP kvs ks P; omega, _, rfl, AllK.put al (P.m ((g2.trans g3).trans g4) pv)⟩) ((g1.trans (g2.trans g3)).trans g4) (l.mono ((g1.trans (g2.trans g3)).trans g4))⟩
/-- list(d.values()) -/
theorem ev_listV {kvs : List (Key × Pr)} (h : Ev s r td (rDk kvs) r1) : Ev s r (tCB (fun xs H Q => ∃ (p d : Addr) (o : Obj) (kvs : List (Key × V)), xs = [.ref p] ∧ H p = some (vw p d) ∧ H d = some (.frz o (.dK kvs)) ∧ ∀ p, H p = none → Q (.ref p) (upd H p (.lst (kvs.map (·.2))))) (tCons (tVals td) tNil)) (rLs K (kvs.map (·.2))) r1 := fun e G H σ m l W w => h e G H σ m l _ fun x G1 H1 m1 g1 ⟨z, a, od, vs, ex, hs, al⟩ => by
  refine ⟨a, od, vs, ex, m1.sub _ _ hs, fun p hp => ?_⟩
  have m2 := m1.hid (o := vw p a) hp
  have ne : a ≠ p := fun q => by rw [q] at hs; rw [m1.sub _ _ hs] at hp; cases hp
  refine ⟨p, a, od, vs, rfl, upd_same, by rw [upd_ne ne]; exact m1.sub _ _ hs, fun q hq => ?_⟩
  have g2 : Same G1 (upd G1 q (.lst (vs.map (·.2)))) := same_new (m2.sub.free hq)
  refine w _ _ _ (m2.new hq) (g1.trans g2) ⟨by rw [List.length_map]; exact z, q, _, rfl, SqL.of upd_same, ?_⟩
  have : ∀ {vs : List (Key × V)} {kvs : List (Key × Pr)}, AllK G1 vs kvs → All2 (upd G1 q (.lst (vs.map (·.2)))) (vs.map (·.2)) (kvs.map (·.2)) → True := fun _ _ => trivial
  have go : ∀ {G2 : Hp}, Same G1 G2 → ∀ {vs : List (Key × V)} {kvs : List (Key × Pr)}, AllK G1 vs kvs → All2 G2 (vs.map (·.2)) (kvs.map (·.2)) := fun k vs kvs h => by
    induction h with
    | nil => exact .nil
    | cons a _ ih => exact .cons (Pr.m _ k a.2) ih
  exact go g2 al
/-- sorted(set(xs)) of texts -/
theorem ex_sortedSet {Pg : Program} {wo : World} {zs : List Str} (h : EvA s r t [rLs K (zs.map rStr)] r1) (hz : (once [] zs).length < 64) (hz2 : zs.length + 1 < scanBound) : EvX s r (tCB (rSortedSS Pg wo) (tCons (tCB (rSetS K Pg wo) t) tNil)) (fun P r' => ∃ ys : List Str, ys.Perm (once [] zs) ∧ sortedS ys = true ∧ P = rLs K (ys.map rStr) ∧ r' = r1) := fun e G H σ m l W w => h e G H σ m l _ fun vs G1 H1 m1 g1 al => by
  cases al with
  | cons av al =>
    cases al
    obtain ⟨z, a, ws, ex, hs, ak⟩ := av
    have strOf : ∀ {ws : List V} {zs : List Str}, All2 G1 ws (zs.map rStr) → ws = zs.map V.str := fun {ws zs} h => by
      induction zs generalizing ws with
      | nil => cases h; rfl
      | cons k ks ih => cases h with
        | cons a t => rw [List.map_cons, ← ih t]; exact congrArg (· :: _) a
    have ew := strOf ak
    subst ex ew
    refine ⟨a, zs, rfl, m1.sub.seq hs, hz2, fun p hp => ?_⟩
    have m2 := m1.hid (o := SetSO Pg wo p (once [] zs)) hp
    refine ⟨p, _, rfl, upd_same, hz, fun ys q pm so hq => ?_⟩
    have go : ∀ {G2 : Hp} (ys : List Str), All2 G2 (ys.map V.str) (ys.map rStr) := fun ys => by
      induction ys with
      | nil => exact .nil
      | cons a _ ih => exact .cons rfl ih
    exact w _ (upd G1 q (.lst (ys.map V.str))) _ _ _ ⟨ys, pm, so, rfl, rfl⟩ (m2.new hq) (g1.trans (same_new (m2.sub.free hq))) ⟨by rw [List.length_map, pm.length_eq]; exact Nat.le_trans (Nat.le_of_lt hz) (by decide), q, _, rfl, SqL.of upd_same, go ys⟩
end
end FL

namespace FL
open PySem PySem.Spec PyProof.Rows L2 StX FN FT FS FZ
section
variable {s s' s1 s2 : Sls} {r r' r1 r2 r3 rc rest post : Rs} {ta tb te tv td : TE} {t : TA} {P Q R : Pr} {K : PySem.W.Frag} {Φ : Pr → Rs → Prop} {Ps Qs : List Pr} {e : Ent} {po : Po} {ts us : TS} {C a : Addr} {ns all : List Str} {f : Str} {Co' : Co}
/-- o.f = {}, and on -/
theorem ok_seqN (c : ClsF K C all) (pre : Rs) (hv : EvX s r tv (fun P r' => ∃ d, P = rAt d ∧ r' = (d, Co') :: (pre ++ (a, cOb C ns Qs) :: post))) (ho : ∀ d, Ev s ((d, Co') :: (pre ++ (a, cOb C ns Qs) :: post)) ta (rAt a) ((d, Co') :: (pre ++ (a, cOb C ns Qs) :: post)))
    (k : ∀ d, Ok e s ((d, Co') :: (pre ++ (a, cOb C (ns ++ [f]) (Qs ++ [rAt d])) :: post)) us po) (hl : look ns f = none := by decide +kernel) (ha : decide (f ∈ all) = true := by decide +kernel) (hz : decide (ns.length < 1000) = true := by decide +kernel) : Ok e s r (tSeq (sFld K ta tv f) us) po :=
  ok_seq (fun s' r' => s' = s ∧ ∃ d, r' = (d, Co') :: (pre ++ (a, cOb C (ns ++ [f]) (Qs ++ [rAt d])) :: post))
    (ok_fNX c hv (fun P r' ⟨d, e1, e2⟩ => by
      subst e1 e2
      exact ⟨(d, Co') :: pre, post, ho d, rfl, d, rfl⟩) hl ha hz)
    fun s' r' ⟨e1, d, e2⟩ => by subst e1 e2; exact k d
/-- a name for what an expression makes -/
theorem ok_seqX {i : Nat} {ι : Sort _} {F : ι → Pr} {ρ : ι → Rs} (h : EvX s r te (fun P r' => ∃ x, P = F x ∧ r' = ρ x)) (k : ∀ x, Ok e (s.set i (some (F x))) (ρ x) us po) : Ok e s r (tSeq (tAsg te (gName i)) us) po :=
  ok_seq (fun s' r' => ∃ x, s' = s.set i (some (F x)) ∧ r' = ρ x) (ok_asgX h fun P r' ⟨x, e1, e2⟩ => by subst e1 e2; exact ⟨x, rfl, rfl⟩) fun s' r' ⟨x, e1, e2⟩ => by subst e1 e2; exact k x
/-- o.f = e for what e makes, f there -/
theorem ok_seqF {ι : Sort _} {F : ι → Pr} {ρ : ι → Rs} (c : ClsF K C all) (i : Nat) (hv : EvX s r tv (fun P r' => ∃ x, P = F x ∧ r' = ρ x)) (pre po' : ι → Rs) (ho : ∀ x, Ev s (ρ x) ta (rAt a) (pre x ++ (a, cOb C ns Qs) :: po' x))
    (k : ∀ x, Ok e s (pre x ++ (a, cOb C ns (Qs.set i (F x))) :: po' x) us po) (hl : look ns f = some i := by decide +kernel) (ha : decide (f ∈ all) = true := by decide +kernel) (hz : decide (ns.length < 1000) = true := by decide +kernel) : Ok e s r (tSeq (sFld K ta tv f) us) po := fun G H σ m l D d => hv e G H σ m l _ fun y G1 H1 P r' ⟨x, e1, e2⟩ m1 g1 py => by
  subst e1 e2
  refine ho x e G1 H1 σ m1 (l.mono g1) _ fun z G2 H2 m2 g2 px => ?_
  obtain ⟨o, hO, ⟨dx, vs, rfl, zl, al⟩⟩ := m2.at_ (List.mem_append_right _ List.mem_cons_self)
  refine ⟨a, C, dx, _, px, hO, c.cl, c.na f (of_decide_eq_true ha), by rw [List.length_zip]; have := of_decide_eq_true hz; omega, ?_⟩
  rw [put_at hl zl]
  exact k x G2 _ σ (m2.putAt ⟨dx, _, rfl, by rw [List.length_set]; exact zl, al.set (Pr.m _ g2 py) i⟩) (l.mono (g1.trans g2)) D (d.mono (g1.trans g2))
/-- a method that is promised for things written, of a frozen thing -/
theorem ex_methF {S : Spec} {E : XK} {nm : Str} (h0 : Ev s r ta (rOb C ns Qs) r1) (hm : look ns nm = none) (h : EvA s r1 t Ps (rc ++ rest)) (hS : S (rOb C ns Qs :: Ps) rc Φ) : EvX s r (tMeth C nm (spM S) [] E ta t) (fun P r' => ∃ r1, Φ P r1 ∧ r' = r1 ++ rest) := fun e G H σ m l W w => h0 e G H σ m l _ fun x G1 H1 m1 g1 px => by
  have px0 := px
  obtain ⟨a, dx, vs, ev, ho, z, al⟩ := px
  refine ⟨a, dx, _, ev, m1.sub _ _ ho, look_no hm, h e G1 H1 σ m1 (l.mono g1) _ fun us G2 H2 m2 g2 al2 => ?_⟩
  show spM S (x :: (us ++ [])) H2 W E
  rw [List.append_nil]
  exact ⟨G2, _, rc, Φ, hS, .cons (Pr.m _ g2 px0) al2, m2.drop.self, fun v G3 H3 P r' f m3 pv => w v G3 H3 P _ ⟨r', f, rfl⟩ (m2.trans m3) (g1.trans (g2.trans m3.gg)) pv⟩
theorem EvX.imp {Φ' : Pr → Rs → Prop} (h : EvX s r te Φ) (k : ∀ P r', Φ P r' → Φ' P r') : EvX s r te Φ' := fun e G H σ m l W w => h e G H σ m l W fun v G1 H1 P r' f m1 g1 pv => w v G1 H1 P r' (k _ _ f) m1 g1 pv
/-- a pair of what two expressions make -/
theorem ex_tup2 (K : PySem.W.Frag) {ι κ : Type} {F : ι → Pr} {ρ : ι → Rs} {F2 : ι → κ → Pr} {ρ2 : ι → κ → Rs} (h1 : EvX s r ta (fun P r' => ∃ x, P = F x ∧ r' = ρ x)) (h2 : ∀ x, EvX s (ρ x) tb (fun P r' => ∃ y, P = F2 x y ∧ r' = ρ2 x y)) :
    EvX s r (tTup (tCons ta (tCons tb tNil))) (fun P r' => ∃ x : ι × κ, P = rTs K [F x.1, F2 x.1 x.2] ∧ r' = ρ2 x.1 x.2) := fun e G H σ m l W w => h1 e G H σ m l _ fun v G1 H1 P r' ⟨x, e1, e2⟩ m1 g1 pv => by
  subst e1 e2
  refine h2 x e G1 H1 σ m1 (l.mono g1) _ fun u G2 H2 P r' ⟨y, e1, e2⟩ m2 g2 pu => ?_
  subst e1 e2
  refine ⟨(by decide : 2 ≤ sizeLine), fun p hp => w _ (upd G2 p (.tup [v, u])) _ _ _ ⟨(x, y), rfl, rfl⟩ (m2.new hp) ((g1.trans g2).trans (same_new (m2.sub.free hp))) ⟨(by decide : 2 ≤ sizeLine), p, _, rfl, SqT.of upd_same, ?_⟩⟩
  have gn := same_new (o := .tup [v, u]) (m2.sub.free hp)
  exact .cons (Pr.m _ (g2.trans gn) pv) (.cons (Pr.m _ gn pu) .nil)
theorem ok_seqT {ι : Sort _} {F : ι → List Pr} {ρ : ι → Rs} {s2 : ι → Sls} {r2 : ι → Rs} {gs : TGs} {n : Nat} (h : EvX s r te (fun P r' => ∃ x, P = rTs K (F x) ∧ r' = ρ x)) (k : ∀ x, Tgs K gs (F x) s (ρ x) (s2 x) (r2 x)) (hn : ∀ x, (F x).length = n) (hk : ∀ x, Ok e (s2 x) (r2 x) us po) : Ok e s r (tSeq (tAsg te (gTup K n gs)) us) po := fun G H σ m l D d => h e G H σ m l _ fun v G1 H1 P r' ⟨x, e1, e2⟩ m1 g1 pv => by
  subst e1 e2
  obtain ⟨z, a, vs, ev, hv, al⟩ := pv
  exact ⟨a, vs, ev, SqT.ext hv m1.sub, by rw [al.len, hn], k x e G1 H1 σ vs m1 (l.mono g1) al _ fun σ2 G2 H2 m2 g2 l2 => hk x G2 H2 σ2 m2 l2 D (d.mono (g1.trans g2))⟩
theorem all_picked {α : Type} : ∀ l : List α, (List.range l.length).filterMap (fun i => l[i]?) = l
  | [] => rfl
  | x :: l => by
    rw [List.length_cons, List.range_succ_eq_map, List.filterMap_cons, List.filterMap_map]
    show x :: List.filterMap (fun i => (x :: l)[i + 1]?) (List.range l.length) = _
    simp only [List.getElem?_cons_succ]
    rw [all_picked l]
/-- the things in another order -/
theorem rs_pick {r rc : Rs} (is : List Nat) (hl : r.length = is.length := by rfl) (hp : is.isPerm (List.range is.length) = true := by decide) (he : is.filterMap (fun i => r[i]?) = rc := by rfl) : r.Perm rc := by
  subst he
  have := (List.isPerm_iff.mp hp).filterMap (fun i => r[i]?)
  rw [← hl, all_picked] at this
  exact this.symm
/-- only the first k of the things as ordered by is -/
theorem Ok.pick (is : List Nat) (k : Nat) (h : Ok e s ((is.filterMap fun i => r[i]?).take k) ts po) (hl : r.length = is.length := by rfl) (hp : is.isPerm (List.range is.length) = true := by decide) : Ok e s r ts po :=
  Ok.perm (rc := (is.filterMap fun i => r[i]?).take k ++ (is.filterMap fun i => r[i]?).drop k) (Ok.less h) (by rw [List.take_append_drop]; exact rs_pick is hl hp rfl)
theorem ei_z2E {P1 P2 : Pr} (h : EvA s r t [P1, P2] r1) (h1 : IsSq K P1 []) (h2 : IsSq K P2 []) : EvI s r (iZ2 K t) [] r1 := ei_z2 h h1 h2 rfl
theorem ei_z3E {P1 P2 P3 : Pr} (h : EvA s r t [P1, P2, P3] r1) (h1 : IsSq K P1 []) (h2 : IsSq K P2 []) (h3 : IsSq K P3 []) : EvI s r (iZ3 K t) [] r1 := ei_z3 h h1 h2 h3 rfl rfl
theorem ei_enumE (h : EvA s r t [rLs K []] r1) : EvI s r (iEnum K t) [] r1 := ei_enumM (R := id) (xs := []) h
theorem ei_rngE (h : EvA s r t [rInt 0] r1) : EvI s r (iRng1 t) [] r1 := ei_rngM (n := 0) h (Nat.zero_le _)
theorem ev_len0 (h : EvA s r t [rLs K []] r1) : Ev s r (tCB (fun xs H Q => ∃ x n, xs = [x] ∧ LenV K x H n ∧ Q (.int n) H) t) (rInt 0) r1 := ev_lenL h
theorem Lo.set {P : Pr} : ∀ {a b : Sls} (i : Nat), Lo a b → Lo (a.set i (some P)) (b.set i (some P))
  | _, _, _, .nil => .nil
  | _, _, 0, .keep h => .keep h
  | _, _, 0, .skip h => .keep h
  | _, _, i + 1, .keep h => .keep (Lo.set i h)
  | _, _, i + 1, .skip h => .skip (Lo.set i h)
theorem ok_seqPar {i j : Nat} {ι : Sort _} {F : ι → Pr} {ρ : ι → Rs} (h1 : Ev s r ta P r1) (h2 : EvX s r1 tb (fun P r' => ∃ x, P = F x ∧ r' = ρ x)) (k : ∀ x, Ok e ((s.set i (some P)).set j (some (F x))) (ρ x) us po) : Ok e s r (tSeq (tPar i j (tCons ta (tCons tb tNil))) us) po := fun G H σ m l D d => h1 e G H σ m l _ fun v G1 H1 m1 g1 pv => h2 e G1 H1 σ m1 (l.mono g1) _ fun u G2 H2 P' r' ⟨x, e1, e2⟩ m2 g2 pu => by
  subst e1 e2
  exact ⟨_, _, rfl, k x G2 H2 _ m2 (((l.mono (g1.trans g2)).set i (Pr.m _ g2 pv)).set j pu) D (d.mono (g1.trans g2))⟩
theorem ev_sorted0 (h : EvA s r t [rLs K []] r1) : Ev s r (tCB (rSortedI K) t) (rLs K []) r1 := (ev_sortedI (ns := []) h).to (by unfold sortI; simp)
theorem ev_list0 (h : EvA s r t [rDk []] r1) : Ev s r (tCB (fun xs H Q => ∃ (a : Addr) (kvs : List (Key × V)), xs = [.ref a] ∧ Rd H a (.dK kvs) ∧ ∀ p, H p = none → Q (.ref p) (upd H p (.lst (kvs.map fun kv => kV kv.1)))) t) (rLs K []) r1 := ev_listD (kvs := []) h
theorem ev_listV0 (h : Ev s r td (rDk []) r1) : Ev s r (tCB (fun xs H Q => ∃ (p d : Addr) (o : Obj) (kvs : List (Key × V)), xs = [.ref p] ∧ H p = some (vw p d) ∧ H d = some (.frz o (.dK kvs)) ∧ ∀ p, H p = none → Q (.ref p) (upd H p (.lst (kvs.map (·.2))))) (tCons (tVals td) tNil)) (rLs K []) r1 := ev_listV (kvs := []) h
/-- sorted(set(xs)) of nothing -/
theorem ev_sortedSet0 {Pg : Program} {wo : World} (h : EvA s r t [rLs K []] r1) : Ev s r (tCB (rSortedSS Pg wo) (tCons (tCB (rSetS K Pg wo) t) tNil)) (rLs K []) r1 := fun e G H σ m l W w => ex_sortedSet (zs := []) (Pg := Pg) (wo := wo) h (by decide) (by decide) e G H σ m l W fun v G1 H1 P r' ⟨ys, pm, _, e1, e2⟩ m1 g1 pv => by
  have : ys = [] := List.Perm.eq_nil pm
  subst this e1 e2
  exact w v G1 H1 m1 g1 pv
theorem ev_methO {S : Spec} {E : XK} {nm : Str} (rc rest : Rs) (h0 : Ev s r ta (rAt a) r1) (hi : (a, cOb C ns Qs) ∈ r1) (h : EvA s r1 t Ps (rc ++ rest)) (hS : S (rAt a :: Ps) rc Φ) (hΦ : ∀ P' r', Φ P' r' → P' = P ∧ r' = r2) (hm : look ns nm = none := by decide +kernel) : Ev s r (tMeth C nm (spM S) [] E ta t) P (r2 ++ rest) :=
  EvX.ev (ex_meth h0 hi hm h hS) fun P' r'' ⟨r1, f, e⟩ => by obtain ⟨x, y⟩ := hΦ _ _ f; subst x y; exact ⟨rfl, e⟩
/-- C(..), frozen at once -/
theorem ev_makeF {S : Spec} {E : XK} {rc' : Rs} {Φ : Addr → Pr → Rs → Prop} (rc rest : Rs) (h : EvA s r t Ps (rc ++ rest)) (hS : ∀ x, S (rAt x :: Ps) ((x, cOb C [] []) :: rc) (Φ x)) (hΦ : ∀ x P r', Φ x P r' → P = rNon ∧ r' = (x, cOb C ns Qs) :: rc') : Ev s r (tMake C (spM S) [] E t) (rOb C ns Qs) (rc' ++ rest) := fun e G H σ m l W w =>
  ex_make h hS (fun x P r' f => (hΦ x P r' f).1) e G H σ m l W fun v G' H' P r' ⟨x, r1, e1, f, e2⟩ m' g p => by
    subst e1 e2
    obtain ⟨_, e3⟩ := hΦ _ _ _ f
    subst e3
    obtain ⟨o, ho, ⟨dx, vs, rfl, z, al⟩, gn, m2⟩ := Mv.freeze (h := (m' : Mv e G' H' ((x, cOb C ns Qs) :: (rc' ++ rest))))
    exact w v _ _ m2 (g.trans (same_new gn)) ⟨x, dx, vs, p, upd_same, z, al.mono (same_new gn)⟩
theorem ex_dict0 (h : EvA s r t [rLs K []] r1) : EvX s r (tCB (fun xs H Q => ∃ (a : Addr) (ps : List Addr) (kvs : List (Key × V)), xs = [.ref a] ∧ SqL K H a (ps.map V.ref) ∧ Paired (fun p kv => SqT K H p [kV kv.1, kv.2]) ps kvs ∧
    ∀ p, H p = none → Q (.ref p) (upd H p (.dK (mergeK [] kvs)))) t) (fun P r' => ∃ a, P = rAt a ∧ r' = (a, cDk []) :: r1) := fun e G H σ m l W w => h e G H σ m l _ fun vs G1 H1 m1 g1 al => by
  cases al with
  | cons av al =>
    cases al
    obtain ⟨z, a, ws, ex, hs, ak⟩ := av
    cases ak
    subst ex
    exact ⟨a, [], [], rfl, m1.sub.seq hs, .nil, fun p hp => w _ G1 _ (rAt p) _ ⟨p, rfl, rfl⟩ (m1.own hp ⟨Nat.zero_le _, [], rfl, .nil⟩) g1 rfl⟩
theorem ei_items0 (K : PySem.W.Frag) (h : Ev s r td (rDk []) r1) : EvI s r (iItems td) [] r1 := ei_items (K := K) (kvs := []) h
theorem ei_keys0 (h : Ev s r td (rDk []) r1) : EvI s r (iKeys td) [] r1 := ei_keys (kvs := []) h
theorem ev_any0 (h : EvA s r t [rLs K []] r1) : Ev s r (tCB (rAny K) t) (rBl false) r1 := ev_any (bs := []) h
theorem ev_all0 (h : EvA s r t [rLs K []] r1) : Ev s r (tCB (rAll K) t) (rBl true) r1 := ev_all (bs := []) h
theorem Mv.frzD {pre : Rs} {G H : Hp} {d : Addr} {kvs : List (Key × Pr)} (h : Mv e G H (pre ++ (d, cDk kvs) :: post)) : ∃ vs, H d = some (.dK vs) ∧ ∀ od, Mv e (upd G d (.frz od (.dK vs))) (upd H d (.frz od (.dK vs))) (pre ++ post) ∧ Same G (upd G d (.frz od (.dK vs))) ∧ ∀ G', Same (upd G d (.frz od (.dK vs))) G' → ∀ v, (rAt d).p G' v → (rDk kvs).p G' v := by
  have m2 := h.perm List.perm_middle
  obtain ⟨o, ho, ⟨hz, vs, rfl, al⟩⟩ := m2.at_ List.mem_cons_self
  obtain ⟨_, _, _, gn, _⟩ := m2.rs _ List.mem_cons_self
  exact ⟨vs, ho, fun od => ⟨m2.freezeD, same_new gn, fun G' k v hv => ⟨hz, d, od, vs, hv, k _ _ upd_same, (al.mono (same_new gn)).mono k⟩⟩⟩
theorem ev_frz3 {b d1 d2 d3 : Addr} {P1 P2 P3 P4 P8 : Pr} {k1 k2 k3 : List (Key × Pr)} (h : Ev s r te (rAt b) [(b, cOb C ns [P1, P2, P3, P4, rAt d1, rAt d2, rAt d3, P8]), (d1, cDk k1), (d2, cDk k2), (d3, cDk k3)]) :
    Ev s r (tFrzA te) (rAt b) [(b, cOb C ns [P1, P2, P3, P4, rDk k1, rDk k2, rDk k3, P8])] := fun e G H σ m l W w => h e G H σ m l _ fun v G1 H1 m1 g1 pv => by
  obtain ⟨v1, h1, q1⟩ := Mv.frzD (pre := [_]) (post := [_, _]) m1
  refine ⟨[d1, d2, d3], _, h1, True.intro, fun od1 => ?_⟩
  obtain ⟨m2, s2, u1⟩ := q1 od1
  obtain ⟨v2, h2, q2⟩ := Mv.frzD (pre := [_]) (post := [_]) m2
  refine ⟨_, h2, True.intro, fun od2 => ?_⟩
  obtain ⟨m3, s3, u2⟩ := q2 od2
  obtain ⟨v3, h3, q3⟩ := Mv.frzD (pre := [_]) (post := []) m3
  refine ⟨_, h3, True.intro, fun od3 => ?_⟩
  obtain ⟨m4, s4, u3⟩ := q3 od3
  refine w v _ _ (Mv.up (pre := []) (post := []) m4 fun o ⟨dx, vs, e1, z, al⟩ => ⟨dx, vs, e1, z, ?_⟩) (g1.trans (s2.trans (s3.trans s4))) pv
  cases al with
  | cons a1 al => cases al with
    | cons a2 al => cases al with
      | cons a3 al => cases al with
        | cons a4 al => cases al with
          | cons a5 al => cases al with
            | cons a6 al => cases al with
              | cons a7 al => cases al with
                | cons a8 al => cases al; exact .cons a1 (.cons a2 (.cons a3 (.cons a4 (.cons (u1 _ (s3.trans s4) _ a5) (.cons (u2 _ s4 _ a6) (.cons (u3 _ (Same.refl _) _ a7) (.cons a8 .nil)))))))
theorem ok_seqD {td : TE} (r1 : Rs) (h : EvX s r td Φ) (hΦ : ∀ P r', Φ P r' → r' = r1) (k : Ok e s r1 us po) : Ok e s r (tSeq (tDrop td) us) po := ok_seq1 (ok_dropX h fun P r' f => ⟨rfl, hΦ P r' f⟩) k
/-! ### copies -/
abbrev Cs := List (Str × Option Str)
def csP (cs : Cs) : List (Key × Pr) := cs.map fun c => (.inr c.1, rOpt rStr c.2)
theorem csP_val : ∀ {cs : Cs} {z : Str}, valP (csP cs) (.inr z) = (cs.lookup z).map (rOpt rStr)
  | [], z => rfl
  | c :: cs, z => by
    have ih := csP_val (cs := cs) (z := z)
    unfold valP csP at *
    rw [List.map_cons]
    by_cases h : c.1 = z
    · subst h
      rw [List.find?_cons_of_pos (by simp)]
      obtain ⟨a, b⟩ := c
      simp [List.lookup]
    · rw [List.find?_cons_of_neg (by simpa using h)]
      obtain ⟨a, b⟩ := c
      have h2 : (z == a) = false := by simpa using fun q => h (Eq.symm q)
      rw [List.lookup_cons, h2]
      exact ih
theorem csP_keys (cs : Cs) : (csP cs).map (·.1) = (cs.map (·.1)).map Sum.inr := by unfold csP; rw [List.map_map, List.map_map]; rfl
/-- following ends within n steps -/
def ends (cs : Cs) : Nat → Option Str → Bool
  | _, none => true
  | 0, some _ => false
  | n + 1, some z => match cs.lookup z with
    | none => false
    | some o => ends cs n o
theorem nodup_inr {α β : Type} {l : List β} (h : l.Nodup) : (l.map (Sum.inr (α := α))).Nodup := h.map (f := Sum.inr) (fun a b hab e => hab (by cases e; rfl))
structure CsOk (cs : Cs) : Prop where
  z : cs.length ≤ 6
  nd : (cs.map (·.1)).Nodup
  free : ∀ c ∈ cs, ends cs cs.length (some c.1) = true
/-! ### promises -/
abbrev Sp1 := List Pr → Rs → (Pr → Rs → Prop) → Prop
def S_State_init (A : Ad) : Spec := fun Ps r Φ => ∃ (a : Addr) (P1 P2 : Pr), Ps = [rAt a, P1, P2] ∧ r = [(a, cOb A.c_State [] [])] ∧ Φ = fun P r' => P = rNon ∧ ∃ d1 d2 d3 : Addr, r' = [(d3, cDk []), (d2, cDk []), (d1, cDk []), (a, cOb A.c_State nsState [P1, P2, rInt 0, rInt 0, rAt d1, rAt d2, rAt d3, rNon])]
def S_State_twin (A : Ad) : Spec := fun Ps r Φ => ∃ (P1 P2 Pk : Pr) (t n : Int) (k1 k2 k3 : List (Key × Pr)), Ps = [rOb A.c_State nsState [P1, P2, rInt t, rInt n, rDk k1, rDk k2, rDk k3, Pk]] ∧ r = [] ∧
  Φ = fun P r' => ∃ b d1 d2 d3 : Addr, P = rAt b ∧ r' = [(b, cOb A.c_State nsState [P1, P2, rInt t, rInt n, rAt d1, rAt d2, rAt d3, rNon]), (d1, cDk k1), (d2, cDk k2), (d3, cDk k3)]
/-- of Steps under way: records, numbers, and more -/
def S_book (A : Ad) (K : PySem.W.Frag) : Spec := fun Ps r Φ => ∃ (a : Addr) (ns : List Str) (Qs : List Pr) (P3 : Pr), Ps = [rAt a, rLs K [], P3] ∧ r = [(a, cOb A.c_Steps ("records" :: "numbers" :: ns) (rDk [] :: rTs K [] :: Qs))] ∧ Φ = fun P r' => P = rDk [] ∧ r' = [(a, cOb A.c_Steps ("records" :: "numbers" :: ns) (rDk [] :: rTs K [] :: Qs))]
def S_rings (A : Ad) (K : PySem.W.Frag) : Spec := fun Ps r Φ => ∃ (a : Addr) (ns : List Str) (Qs : List Pr), Ps = [rAt a, rLs K []] ∧ r = [(a, cOb A.c_Steps ("records" :: "numbers" :: ns) (rDk [] :: rTs K [] :: Qs))] ∧ Φ = fun P r' => P = rDk [] ∧ r' = [(a, cOb A.c_Steps ("records" :: "numbers" :: ns) (rDk [] :: rTs K [] :: Qs))]
def qSteps (K : PySem.W.Frag) : List Pr := [rDk [], rTs K [], rTop, rDk [], rDk [], rDk [], rDk [], rDk [], rTs K [], rTs K []]
def S_Steps_init (A : Ad) (K : PySem.W.Frag) : Spec := fun Ps r Φ => ∃ (a : Addr) (cs : Cs), Ps = [rAt a, rTq (pairsP K (csP cs)), rDk []] ∧ CsOk cs ∧ r = [(a, cOb A.c_Steps [] [])] ∧ Φ = fun P r' => P = rNon ∧ r' = [(a, cOb A.c_Steps nsSteps (qSteps K))]
def qCont (Pp : Pr) : List Pr := [rDk [], Pp, rDk [], rDk [], rDk [], rDk [], rDk [], rDk [], rDk [], rBl false, rDk [], rDk [], rDk [], rDk []]
def S_told (A : Ad) (K : PySem.W.Frag) : Spec := fun Ps r Φ => ∃ (a : Addr) (ns : List Str) (Qs : List Pr), Ps = [rAt a, rLs K []] ∧ r = [(a, cOb A.c_Contents ("records" :: "piece_length" :: "least_of" :: "members_of" :: ns) Qs)] ∧ Qs[3]? = some (rDk []) ∧ Φ = fun P r' => P = rDk [] ∧ r' = r
def S_Cont_init (A : Ad) (K : PySem.W.Frag) : Spec := fun Ps r Φ => ∃ (a : Addr) (Pp : Pr), Ps = [rAt a, rDk [], rTs K [], Pp] ∧ r = [(a, cOb A.c_Contents [] [])] ∧ Φ = fun P r' => P = rNon ∧ r' = [(a, cOb A.c_Contents nsCont (qCont Pp))]
def rStp (A : Ad) (K : PySem.W.Frag) : Pr := rOb A.c_Steps nsSteps (qSteps K)
def rCon (A : Ad) (Pp : Pr) : Pr := rOb A.c_Contents nsCont (qCont Pp)
def rKno (A : Ad) (K : PySem.W.Frag) (Pp : Pr) : Pr := rOb A.c_Knowledge nsKnow [rDk [], rStp A K, rCon A Pp, rBl true]
def S_sound (A : Ad) (K : PySem.W.Frag) : Spec := fun Ps r Φ => ∃ (a : Addr) (Pp : Pr), Ps = [rAt a] ∧ r = [(a, cOb A.c_Knowledge ["records", "steps", "contents"] [rDk [], rStp A K, rCon A Pp])] ∧ Φ = fun P r' => P = rBl true ∧ r' = r
def S_Know_init (A : Ad) (K : PySem.W.Frag) : Spec := fun Ps r Φ => ∃ (a : Addr) (cs : Cs) (Pp : Pr), Ps = [rAt a, rTq (pairsP K (csP cs)), Pp, rDk []] ∧ CsOk cs ∧ r = [(a, cOb A.c_Knowledge [] [])] ∧ Φ = fun P r' => P = rNon ∧ r' = [(a, cOb A.c_Knowledge nsKnow [rDk [], rStp A K, rCon A Pp, rBl true])]
def S_kof (A : Ad) (K : PySem.W.Frag) : Spec := fun Ps r Φ => (∃ (b : Addr) (cs : Cs) (Pp P3 P4 P5 P7 : Pr), Ps = [rAt b] ∧ CsOk cs ∧ r = [(b, cOb A.c_State nsState [rTq (pairsP K (csP cs)), Pp, P3, P4, P5, rDk [], P7, rNon])] ∧
  Φ = fun P r' => P = rKno A K Pp ∧ r' = [(b, cOb A.c_State nsState [rTq (pairsP K (csP cs)), Pp, P3, P4, P5, rDk [], P7, rKno A K Pp])]) ∨
  (∃ (P1 Pp P3 P4 P5 P6 P7 : Pr), Ps = [rOb A.c_State nsState [P1, Pp, P3, P4, P5, P6, P7, rKno A K Pp]] ∧ r = [] ∧ Φ = fun P r' => P = rKno A K Pp ∧ r' = [])
def S_laid (A : Ad) (K : PySem.W.Frag) : Spec := fun Ps r Φ => ∃ (b d1 d2 d3 : Addr) (cs : Cs) (Pp : Pr) (t n : Int) (k1 k3 : List (Key × Pr)), Ps = [rAt b] ∧ CsOk cs ∧ r = [(b, cOb A.c_State nsState [rTq (pairsP K (csP cs)), Pp, rInt t, rInt n, rAt d1, rAt d2, rAt d3, rNon]), (d1, cDk k1), (d2, cDk []), (d3, cDk k3)] ∧
  Φ = fun P r' => P = rOb A.c_State nsState [rTq (pairsP K (csP cs)), Pp, rInt t, rInt n, rDk k1, rDk [], rDk k3, rKno A K Pp] ∧ r' = []
end
end FL

namespace FL
open PySem PySem.Spec PyProof.Rows L2 StX FN FT FS FZ
/-! ### promises with own errors -/
/-- what may be wished of own errors (class, value's data, things left) is taken by E -/
def XLe (e : Ent) (Ψ : Addr → Pr → Rs → Prop) (E : XK) : Prop := ∀ C P r' G' H' d v, Ψ C P r' → Mv e G' H' r' → H' d = some (.xd [(("value" : Str), v)]) → P.p G' v → E (.ref C) (some d) H'
abbrev SpecR := List Pr → Rs → (Pr → Rs → Prop) → (Addr → Pr → Rs → Prop) → Prop
def spR (S : SpecR) : Sp := fun vs H Q E => ∃ G Ps r Φ Ψ, S Ps r Φ Ψ ∧ All2 G vs Ps ∧ Mv ⟨G, H, r⟩ G H r ∧ (∀ v G' H' P r', Φ P r' → Mv ⟨G, H, r⟩ G' H' r' → P.p G' v → Q v H') ∧ XLe ⟨G, H, r⟩ Ψ E
theorem run_R {t : TS} {N : List Str} {S : SpecR} {vs : List V} {H : Hp} {Q : VK} {E : XK} (h : spR S vs H Q E) (k : ∀ Ps r Φ Ψ, S Ps r Φ Ψ → ∀ e, XLe e Ψ E → Ok e (slots N.length Ps) r t (poM Φ)) : t { nx := fun _ H' => Q .non H', rt := Q } (L2.start N vs) H := by
  obtain ⟨G, Ps, r, Φ, Ψ, hS, al, mv, q, x⟩ := h
  exact k Ps r Φ Ψ hS ⟨G, H, r⟩ x G H _ mv (sl_start al) _ ⟨fun s r' G' σ H' a m _ _ => q _ _ _ _ _ a m rfl, fun R r' G' v H' a m _ pv => q _ _ _ _ _ a m pv, fun s r G' σ H' a m _ _ => a.elim, fun s r G' σ H' a m _ _ => a.elim⟩
theorem len_R {S : SpecR} {vs : List V} {H : Hp} {Q : VK} {E : XK} {n : Nat} (h : spR S vs H Q E) (k : ∀ Ps r Φ Ψ, S Ps r Φ Ψ → Ps.length = n) : vs.length = n := by
  obtain ⟨G, Ps, r, Φ, Ψ, hS, al, _⟩ := h
  rw [al.len, k _ _ _ _ hS]
/-- an own error's class -/
structure ErrF (P : Program) (K : PySem.W.Frag) (mg : Str → Option Value) (x : Str) (C : Addr) : Prop where
  t : ∃ fI qual, S1.SupTxt P K C fI qual
  g : mg x = some (.ref C)
theorem ps_raiseE {X : Cx} {x : Str} {C : Addr} {a : Expr} {ta : TA} {W : WX} {p pos pos2 : Pos} {k : Nat} (hc : X.calm = true) (D : ErrF X.prog X.K X.mg x C) (hr : Room k X.A) (tk : Takes X W) (ha : PA X [a] ta) (hg : Gl X x := by rfl) (hdb : (x == ("__debug__" : Str)) = false := by decide)
    (he : starEach (a :: []) X.env = (false, eval a X.env) :: starEach [] X.env := by rfl) (hpl : (backTo pos (starEach [] X.env)).any (·.1) = false := by rfl) :
    PS X (.Raise (some (.Call (.Name x p) [a] [] pos)) none pos2) (fun _ σ H => S1.tMkSup C ta σ H fun cls d H' => W cls d σ H') := by
  obtain ⟨⟨fI, q, t⟩, g⟩ := D
  exact S1.ps_raiseSup hc t g hr tk ha hg hdb he hpl
section
variable {s s' s1 s2 : Sls} {r r' r1 r2 r3 rc rest post : Rs} {ta tb te tv td : TE} {t : TA} {P Q R : Pr} {K : PySem.W.Frag} {Φ : Pr → Rs → Prop} {Ψ Ψ' : Addr → Pr → Rs → Prop} {Ps Qs : List Pr} {e : Ent} {po : Po} {ts us : TS} {C a : Addr} {ns all : List Str} {f nm : Str} {E : XK} {S : SpecR}
/-- what an expression makes, entered at e -/
def EvXe (e : Ent) (s : Sls) (r : Rs) (te : TE) (Φ : Pr → Rs → Prop) : Prop :=
  ∀ G H σ, Mv e G H r → SlOk G σ s → ∀ Q : VK, (∀ v G' H' P r', Φ P r' → Mv e G' H' r' → Same G G' → P.p G' v → Q v H') → te σ H Q
theorem EvX.at (h : EvX s r te Φ) : EvXe e s r te Φ := h e
theorem EvXe.imp {Φ' : Pr → Rs → Prop} (h : EvXe e s r te Φ) (k : ∀ P r', Φ P r' → Φ' P r') : EvXe e s r te Φ' := fun G H σ m l W w => h G H σ m l W fun v G1 H1 P r' f m1 g1 pv => w v G1 H1 P r' (k _ _ f) m1 g1 pv
theorem EvXe.ev1 (h : EvXe e s r te Φ) (k : ∀ P' r', Φ P' r' → P' = P ∧ r' = r1) : EvXe e s r te (fun P' r' => ∃ x : Unit, P' = P ∧ r' = r1) := h.imp fun P' r' f => ⟨(), k _ _ f⟩
theorem ok_raise (h : EvA s r t [P] r1) (hx : XLe e Ψ E) (k : Ψ C P r1) : Ok e s r (fun _ σ H => S1.tMkSup C t σ H fun cls d H' => E cls d H') po := fun G H σ m l D d => h e G H σ m l _ fun vs G1 H1 m1 g1 al => by
  cases al with
  | cons a1 al =>
    cases al
    exact ⟨_, rfl, fun dd hd => hx C P r1 G1 _ dd _ k (m1.hid hd) upd_same a1⟩
/-- a call of a def that may raise -/
theorem ex_callR (rc rest : Rs) (h : EvA s r t Ps (rc ++ rest)) (hS : S Ps rc Φ Ψ') (hx : XLe e Ψ E) (hΨ : ∀ C P r', Ψ' C P r' → Ψ C P (r' ++ rest)) : EvXe e s r (tCall (spR S) [] E t) (fun P r' => ∃ r1, Φ P r1 ∧ r' = r1 ++ rest) := fun G H σ m l W w => h e G H σ m l _ fun vs G1 H1 m1 g1 al => by
  show spR S (vs ++ []) H1 W E
  rw [List.append_nil]
  exact ⟨G1, Ps, rc, Φ, Ψ', hS, al, m1.drop.self, fun v G2 H2 P r' f m2 pv => w v G2 H2 P _ ⟨r', f, rfl⟩ (m1.trans m2) (g1.trans m2.gg) pv, fun C P r' G' H' d v f m2 hd pv => hx C P _ G' H' d v (hΨ _ _ _ f) (m1.trans m2) hd pv⟩
theorem ex_methR (rc rest : Rs) (h0 : Ev s r ta (rAt a) r1) (hi : (a, cOb C ns Qs) ∈ r1) (h : EvA s r1 t Ps (rc ++ rest)) (hS : S (rAt a :: Ps) rc Φ Ψ') (hx : XLe e Ψ E) (hΨ : ∀ C P r', Ψ' C P r' → Ψ C P (r' ++ rest)) (hm : look ns nm = none := by decide +kernel) : EvXe e s r (tMeth C nm (spR S) [] E ta t) (fun P r' => ∃ r1, Φ P r1 ∧ r' = r1 ++ rest) := fun G H σ m l W w => h0 e G H σ m l _ fun x G1 H1 m1 g1 px => by
  obtain ⟨o, ho, ⟨dx, vs, rfl, z, al⟩⟩ := m1.at_ hi
  refine ⟨a, dx, _, px, ho, look_no hm, h e G1 H1 σ m1 (l.mono g1) _ fun us G2 H2 m2 g2 al2 => ?_⟩
  show spR S (x :: (us ++ [])) H2 W E
  rw [List.append_nil]
  exact ⟨G2, _, rc, Φ, Ψ', hS, .cons px al2, m2.drop.self, fun v G3 H3 P r' f m3 pv => w v G3 H3 P _ ⟨r', f, rfl⟩ (m2.trans m3) (g1.trans (g2.trans m3.gg)) pv, fun C P r' G' H' d v f m3 hd pv => hx C P _ G' H' d v (hΨ _ _ _ f) (m2.trans m3) hd pv⟩
/-- a call of a def that may not, with one argument that may -/
theorem ex_call1 {S : Spec} {ι : Sort _} {F : ι → Pr} {ρ rc rest : ι → Rs} {Φ : ι → Pr → Rs → Prop} {E1 : XK} (h : EvXe e s r te (fun P r' => ∃ x, P = F x ∧ r' = ρ x)) (hr : ∀ x, ρ x = rc x ++ rest x) (hS : ∀ x, S [F x] (rc x) (Φ x)) : EvXe e s r (tCall (spM S) [] E1 (tCons te tNil)) (fun P r' => ∃ x r1, Φ x P r1 ∧ r' = r1 ++ rest x) := fun G H σ m l W w => h G H σ m l _ fun v G1 H1 P r' ⟨x, e1, e2⟩ m1 g1 pv => by
  subst e1 e2
  rw [hr x] at m1
  exact ⟨G1, _, rc x, Φ x, hS x, .cons pv .nil, m1.drop.self, fun v G2 H2 P r' f m2 pv => w v G2 H2 P _ ⟨x, r', f, rfl⟩ (m1.trans m2) (g1.trans m2.gg) pv⟩
/-! statements over them -/
theorem ok_seqDe {r1 : Rs} (h : EvXe e s r td Φ) (hΦ : ∀ P r', Φ P r' → r' = r1) (k : Ok e s r1 us po) : Ok e s r (tSeq (tDrop td) us) po := fun G H σ m l D d => h G H σ m l _ fun v G1 H1 P r' f m1 g1 pv => by
  have := hΦ _ _ f
  subst this
  exact k G1 H1 σ m1 (l.mono g1) D (d.mono g1)
theorem ok_dropE (h : EvXe e s r td Φ) (k : ∀ P r', Φ P r' → po.nx s r') : Ok e s r (tDrop td) po := fun G H σ m l D d => h G H σ m l _ fun v G1 H1 P r' f m1 g1 pv => d.nx _ _ _ _ _ (k _ _ f) m1 g1 (l.mono g1)
theorem ok_retE (h : EvXe e s r te Φ) (k : ∀ P r', Φ P r' → po.rt P r') : Ok e s r (tRet te) po := fun G H σ m l D d => h G H σ m l _ fun v G1 H1 P r' f m1 g1 pv => d.rt _ _ _ _ _ (k _ _ f) m1 g1 pv
theorem ok_seqXe {i : Nat} {ι : Sort _} {F : ι → Pr} {ρ : ι → Rs} (h : EvXe e s r te (fun P r' => ∃ x, P = F x ∧ r' = ρ x)) (k : ∀ x, Ok e (s.set i (some (F x))) (ρ x) us po) : Ok e s r (tSeq (tAsg te (gName i)) us) po := fun G H σ m l D d => h G H σ m l _ fun v G1 H1 P r' ⟨x, e1, e2⟩ m1 g1 pv => by
  subst e1 e2
  exact k x G1 H1 _ m1 ((l.mono g1).set i pv) D (d.mono g1)
theorem ok_seqTe {ι : Sort _} {F : ι → List Pr} {ρ : ι → Rs} {s2 : ι → Sls} {r2 : ι → Rs} {gs : TGs} {n : Nat} (h : EvXe e s r te (fun P r' => ∃ x, P = rTs K (F x) ∧ r' = ρ x)) (k : ∀ x, Tgs K gs (F x) s (ρ x) (s2 x) (r2 x)) (hn : ∀ x, (F x).length = n) (hk : ∀ x, Ok e (s2 x) (r2 x) us po) : Ok e s r (tSeq (tAsg te (gTup K n gs)) us) po := fun G H σ m l D d => h G H σ m l _ fun v G1 H1 P r' ⟨x, e1, e2⟩ m1 g1 pv => by
  subst e1 e2
  obtain ⟨z, a, vs, ev, hv, al⟩ := pv
  exact ⟨a, vs, ev, SqT.ext hv m1.sub, by rw [al.len, hn], k x e G1 H1 σ vs m1 (l.mono g1) al _ fun σ2 G2 H2 m2 g2 l2 => hk x G2 H2 σ2 m2 l2 D (d.mono (g1.trans g2))⟩
/-- o.f = e, f there -/
theorem ok_fe {ι : Sort _} {F : ι → Pr} {ρ : ι → Rs} (c : ClsF K C all) (i : Nat) (hv : EvXe e s r tv (fun P r' => ∃ x, P = F x ∧ r' = ρ x)) (pre po' : ι → Rs) (ho : ∀ x, Ev s (ρ x) ta (rAt a) (pre x ++ (a, cOb C ns Qs) :: po' x))
    (k : ∀ x, po.nx s (pre x ++ (a, cOb C ns (Qs.set i (F x))) :: po' x)) (hl : look ns f = some i := by decide +kernel) (ha : decide (f ∈ all) = true := by decide +kernel) (hz : decide (ns.length < 1000) = true := by decide +kernel) : Ok e s r (sFld K ta tv f) po := fun G H σ m l D d => hv G H σ m l _ fun y G1 H1 P r' ⟨x, e1, e2⟩ m1 g1 py => by
  subst e1 e2
  refine ho x e G1 H1 σ m1 (l.mono g1) _ fun z G2 H2 m2 g2 px => ?_
  obtain ⟨o, hO, ⟨dx, vs, rfl, zl, al⟩⟩ := m2.at_ (List.mem_append_right _ List.mem_cons_self)
  refine ⟨a, C, dx, _, px, hO, c.cl, c.na f (of_decide_eq_true ha), by rw [List.length_zip]; have := of_decide_eq_true hz; omega, ?_⟩
  rw [put_at hl zl]
  exact d.nx _ _ _ _ _ (k x) (m2.putAt ⟨dx, _, rfl, by rw [List.length_set]; exact zl, al.set (Pr.m _ g2 py) i⟩) (g1.trans g2) (l.mono (g1.trans g2))
theorem ok_feN {ι : Sort _} {F : ι → Pr} {ρ : ι → Rs} (c : ClsF K C all) (hv : EvXe e s r tv (fun P r' => ∃ x, P = F x ∧ r' = ρ x)) (pre po' : ι → Rs) (ho : ∀ x, Ev s (ρ x) ta (rAt a) (pre x ++ (a, cOb C ns Qs) :: po' x))
    (k : ∀ x, po.nx s (pre x ++ (a, cOb C (ns ++ [f]) (Qs ++ [F x])) :: po' x)) (hl : look ns f = none := by decide +kernel) (ha : decide (f ∈ all) = true := by decide +kernel) (hz : decide (ns.length < 1000) = true := by decide +kernel) : Ok e s r (sFld K ta tv f) po := fun G H σ m l D d => hv G H σ m l _ fun y G1 H1 P r' ⟨x, e1, e2⟩ m1 g1 py => by
  subst e1 e2
  refine ho x e G1 H1 σ m1 (l.mono g1) _ fun z G2 H2 m2 g2 px => ?_
  obtain ⟨o, hO, ⟨dx, vs, rfl, zl, al⟩⟩ := m2.at_ (List.mem_append_right _ List.mem_cons_self)
  refine ⟨a, C, dx, _, px, hO, c.cl, c.na f (of_decide_eq_true ha), by rw [List.length_zip]; have := of_decide_eq_true hz; omega, ?_⟩
  rw [put_no hl zl]
  exact d.nx _ _ _ _ _ (k x) (m2.putAt ⟨dx, _, rfl, by rw [List.length_append, List.length_append, zl]; rfl, al.app (.cons (Pr.m _ g2 py) .nil)⟩) (g1.trans g2) (l.mono (g1.trans g2))
end
end FL

namespace FL
open PySem PySem.Spec PyProof.Rows L2 StX FN FT FS FZ
open S1 (Dq DqA)
/-! ### values of any kind -/
def rDq (K : PySem.W.Frag) (d : PyData) : Pr := ⟨fun G v => Dq K G v d, fun k h => Dq.same k h⟩
def isI : PyData → Bool
  | .int _ => true
  | .bool _ => true
  | _ => false
def isB : PyData → Bool
  | .bool _ => true
  | _ => false
def isS : PyData → Bool
  | .str _ => true
  | _ => false
def tyD : PyData → String
  | .none => "NoneType"
  | .bool _ => "bool"
  | .int _ => "int"
  | .str _ => "str"
  | .list _ => "list"
  | .tuple _ => "tuple"
  | .dict _ => "dict"
theorem tyx {K : PySem.W.Frag} {H : Hp} {x : V} {d : PyData} (h : Dq K H x d) : TyX K H x (.type (tyD d)) := by
  cases h with
  | non => exact .base .non
  | bl b => exact .base (.bl b)
  | int i => exact .base (.int i)
  | str x => exact .base (.str x)
  | lst e _ => exact .base (.lst e)
  | tup e _ =>
    rcases e with (q | ⟨od, q⟩) | ⟨o, its, n, q, c, _⟩
    · exact .base (.tup q)
    · exact .fTuple q
    · exact .kTuple q c
  | dct e _ _ => exact .base (.dK e)
theorem kI {K : PySem.W.Frag} : ∀ d : PyData, PySem.W.kitOne K (.type (tyD d)) (.type "int") = some (isI d)
  | .none => kit_ty (show kitB "NoneType" "int" = some false by decide +kernel)
  | .bool _ => kit_ty (show kitB "bool" "int" = some true by decide +kernel)
  | .int _ => kit_ty (show kitB "int" "int" = some true by decide +kernel)
  | .str _ => kit_ty (show kitB "str" "int" = some false by decide +kernel)
  | .list _ => kit_ty (show kitB "list" "int" = some false by decide +kernel)
  | .tuple _ => kit_ty (show kitB "tuple" "int" = some false by decide +kernel)
  | .dict _ => kit_ty (show kitB "dict" "int" = some false by decide +kernel)
theorem kB {K : PySem.W.Frag} : ∀ d : PyData, PySem.W.kitOne K (.type (tyD d)) (.type "bool") = some (isB d)
  | .none => kit_ty (show kitB "NoneType" "bool" = some false by decide +kernel)
  | .bool _ => kit_ty (show kitB "bool" "bool" = some true by decide +kernel)
  | .int _ => kit_ty (show kitB "int" "bool" = some false by decide +kernel)
  | .str _ => kit_ty (show kitB "str" "bool" = some false by decide +kernel)
  | .list _ => kit_ty (show kitB "list" "bool" = some false by decide +kernel)
  | .tuple _ => kit_ty (show kitB "tuple" "bool" = some false by decide +kernel)
  | .dict _ => kit_ty (show kitB "dict" "bool" = some false by decide +kernel)
theorem kS {K : PySem.W.Frag} : ∀ d : PyData, PySem.W.kitOne K (.type (tyD d)) (.type "str") = some (isS d)
  | .none => kit_ty (show kitB "NoneType" "str" = some false by decide +kernel)
  | .bool _ => kit_ty (show kitB "bool" "str" = some false by decide +kernel)
  | .int _ => kit_ty (show kitB "int" "str" = some false by decide +kernel)
  | .str _ => kit_ty (show kitB "str" "str" = some true by decide +kernel)
  | .list _ => kit_ty (show kitB "list" "str" = some false by decide +kernel)
  | .tuple _ => kit_ty (show kitB "tuple" "str" = some false by decide +kernel)
  | .dict _ => kit_ty (show kitB "dict" "str" = some false by decide +kernel)
def kT7 : List String := ["NoneType", "bool", "int", "str", "list", "tuple", "dict"]
theorem tyD_mem (d : PyData) : tyD d ∈ kT7 := by cases d <;> simp [tyD, kT7]
section
variable {X : Cx} {x : Str} {pos : Pos}
theorem pe_gI {i : Int} (hg : Gl X x) (h : ∃ t, X.mg x = some (.int i t)) (hd : (x == ("__debug__" : Str)) = false := by decide) : PE X (.Name x pos) (tC (.int i)) := by
  obtain ⟨t, h⟩ := h
  exact pe_glob hg h ⟨t, rfl⟩ hd
theorem pe_gS {i : Str} (hg : Gl X x) (h : ∃ t, X.mg x = some (.str i t)) (hd : (x == ("__debug__" : Str)) = false := by decide) : PE X (.Name x pos) (tC (.str i)) := by
  obtain ⟨t, h⟩ := h
  exact pe_glob hg h ⟨t, rfl⟩ hd
end
/-- what more the program's text has -/
structure TxE (P : Program) (K : PySem.W.Frag) (mg : Str → Option Value) (A : Ad) : Prop where
  n_int : mg "int" = none
  n_bool : mg "bool" = none
  n_str : mg "str" = none
  n_isinstance : mg "isinstance" = none
  g_SMALL : ∃ t, mg "SMALL" = some (.str "abcdefghijklmnopqrstuvwxyz" t)
  g_DIGITS : ∃ t, mg "DIGITS" = some (.str "0123456789" t)
  g_MOST_SIGNS : ∃ t, mg "MOST_SIGNS" = some (.int 8 t)
  g_MOST_COPIES : ∃ t, mg "MOST_COPIES" = some (.int 6 t)
  g_MOST_PIECE : ∃ t, mg "MOST_PIECE" = some (.int 64 t)
  g_PAIR_forms : ∃ t, mg "PAIR_forms" = some (.int 2 t)
  g_PAIR_spans : ∃ t, mg "PAIR_spans" = some (.int 2 t)
  g_MOST : ∃ t, mg "MOST" = some (.int 1000000 t)
  ss : ClsF K A.c_Spans ["pairs", "many_positions"]
  c_Spans : mg "Spans" = some (.ref A.c_Spans)
  k_Spans : ∀ T ∈ kT7, PySem.W.kitOne K (.type T) (.ref A.c_Spans) = some false
  y_Sp : ∀ (H : Hp) (a dx : Addr) (fs : List (Str × V)), H a = some (.ins A.c_Spans dx fs) → TyX K H (.ref a) (.ref A.c_Spans)
  k_SpSp : PySem.W.kitOne K (.ref A.c_Spans) (.ref A.c_Spans) = some true
  x_NoCopy : ErrF P K mg "NoCopy" A.c_NoCopy
  x_BadSpans : ErrF P K mg "BadSpans" A.c_BadSpans
  x_BadWord : ErrF P K mg "BadWord" A.c_BadWord
  x_NoAsk : ErrF P K mg "NoAsk" A.c_NoAsk
  x_BadCopies : ErrF P K mg "BadCopies" A.c_BadCopies
  x_BadPiece : ErrF P K mg "BadPiece" A.c_BadPiece
def intB (p : Int → Bool) : PyData → Bool
  | .int i => p i
  | _ => false
def madeB (signs : Str) : PyData → Bool
  | .str z => decide (1 ≤ (z.length : Int)) && decide ((z.length : Int) ≤ 8) && (z.cps.toList.all fun c => decide (c ∈ signs.cps.toList))
  | _ => false
section
variable {s s' s1 s2 : Sls} {r r' r1 r2 r3 rc rest post : Rs} {ta tb te tv td : TE} {t : TA} {P Q R : Pr} {K : PySem.W.Frag} {Φ : Pr → Rs → Prop} {Ψ Ψ' : Addr → Pr → Rs → Prop} {Ps Qs : List Pr} {e : Ent} {po : Po} {ts us : TS} {C a : Addr} {ns all : List Str} {f nm : Str} {E : XK} {d : PyData}
theorem ev_isiD {c : String} {b : Bool} (h : EvA s r t [rDq K d, rV (.ty c)] r1) (hk : PySem.W.kitOne K (.type (tyD d)) (.type c) = some b) : Ev s r (tCB (rIsi K) t) (rBl b) r1 := ev_cb h fun G H vs sm al W w => by
  cases al with
  | cons a1 al => cases al with
    | cons a2 al =>
      cases al
      have a2 : _ = V.ty c := a2
      subst a2
      exact ⟨_, _, _, _, b, rfl, .ty _, tyx (Dq.same sm a1), hk, w _ rfl⟩
theorem ev_isiC {C : Addr} {b : Bool} (h : EvA s r t [rDq K d, rV (.ref C)] r1) (hk : PySem.W.kitOne K (.type (tyD d)) (.ref C) = some b) : Ev s r (tCB (rIsi K) t) (rBl b) r1 := ev_cb h fun G H vs sm al W w => by
  cases al with
  | cons a1 al => cases al with
    | cons a2 al =>
      cases al
      have a2 : _ = V.ref C := a2
      subst a2
      exact ⟨_, _, _, _, b, rfl, .own _, tyx (Dq.same sm a1), hk, w _ rfl⟩
theorem dq_int {G : Hp} {v : V} {i : Int} (h : (rDq K (.int i)).p G v) : (rInt i).p G v := by cases (show Dq K G v (.int i) from h); rfl
theorem dq_str {G : Hp} {v : V} {z : Str} (h : (rDq K (.str z)).p G v) : (rStr z).p G v := by cases (show Dq K G v (.str z) from h); rfl
theorem ev_dInt {i : Int} (h : Ev s r te (rDq K (.int i)) r1) : Ev s r te (rInt i) r1 := h.imp fun _ _ => dq_int
theorem ev_dStr {z : Str} (h : Ev s r te (rDq K (.str z)) r1) : Ev s r te (rStr z) r1 := h.imp fun _ _ => dq_str
/-- a text's signs, walked -/
def signsP (z : Str) : List Pr := z.cps.toList.map fun c => rStr ⟨#[c]⟩
theorem ei_str {z : Str} (h : Ev s r te (rStr z) r1) (hz : z.cps.size ≤ sizeLine) : EvI s r (iStr te) (signsP z) r1 := fun e G H σ m l R q => h e G H σ m l _ fun v G1 H1 m1 g1 ev => by
  have e0 : (signsP z).length = z.cps.size := by unfold signsP; rw [List.length_map, Array.length_toList]
  refine ⟨z, ev, q _ G1 H1 m1 g1 ⟨by rw [e0]; exact hz, fun G2 H2 i s1 s2 hi => by rw [e0] at hi; exact hi, fun G2 H2 s1 s2 => by rw [e0]; exact Nat.le_refl _, fun G2 H2 i x H3 s1 s2 ⟨e1, c, h1, h2⟩ hi => ?_⟩⟩
  subst e1 h2
  exact ⟨G2, rStr ⟨#[c]⟩, .rfl, by unfold signsP; rw [List.getElem?_map, Array.getElem?_toList, h1]; rfl, rfl⟩
theorem ev_sign {c : Nat} {z : Str} (ha : Ev s r ta (rStr ⟨#[c]⟩) r1) (hb : Ev s r1 tb (rStr z) r2) : Ev s r (tOp (fun x y H Q => ∃ (c : Nat) (z : Str), x = .str ⟨#[c]⟩ ∧ y = .str z ∧ Q (.bl (decide (c ∈ z.cps.toList))) H) ta tb) (rBl (decide (c ∈ z.cps.toList))) r2 := ev_op ha hb fun G H x y _ hx hy W w => ⟨c, z, hx, hy, w _ rfl⟩
theorem ev_catS {z z' : Str} (ha : Ev s r ta (rStr z) r1) (hb : Ev s r1 tb (rStr z') r2) (hz : z.length + z'.length ≤ sizeLine) : Ev s r (tOp (fun x y H Q => ∃ i j, x = .str i ∧ y = .str j ∧ i.length + j.length ≤ sizeLine ∧ Q (.str (i ++ j)) H) ta tb) (rStr (z ++ z')) r2 := ev_op ha hb fun G H x y _ hx hy W w => ⟨z, z', hx, hy, hz, w _ rfl⟩
theorem ok_augF {pre : Rs} {x y : Int} (c : ClsF K C all) (i : Nat) (ho : Ev s r ta (rAt a) r1) (hi : (a, cOb C ns Qs) ∈ r1) (hv : Ev s r1 tv (rInt y) (pre ++ (a, cOb C ns Qs) :: post)) (hx : Qs[i]? = some (rInt x)) (k : po.nx s (pre ++ (a, cOb C ns (Qs.set i (rInt (x + y)))) :: post)) (hl : look ns f = some i := by decide +kernel) (ha : decide (f ∈ all) = true := by decide +kernel) (hz : decide (ns.length < 1000) = true := by decide +kernel) : Ok e s r (sFldAug K ta tv rAdd f) po :=
  ok_fldAug (fn := (· + ·)) i ho hi hv c.cl (c.na f (of_decide_eq_true ha)) hl (of_decide_eq_true hz) hx rfl k
/-- if c: raise .. -/
theorem ok_guard {c : TT} {b : Bool} (h : EvT s r c b r1) (hx : b = true → ∀ po, Ok e s r1 ts po) (k : b = false → Ok e s r1 us po) : Ok e s r (tSeq (tIfS c ts tNext) us) po := by
  cases b with
  | true => exact ok_seq (fun _ _ => False) (ok_if h (fun _ => hx rfl _) fun z => by cases z) fun _ _ f => f.elim
  | false => exact ok_seq1 (ok_if h (fun z => by cases z) fun _ => ok_next ⟨rfl, rfl⟩) (k rfl)
theorem intB_some {p : Int → Bool} {d : PyData} (h : intB p d = true) : ∃ i, d = .int i ∧ p i = true := by cases d <;> first | exact ⟨_, rfl, h⟩ | cases h
theorem not_eq {b : Bool} (h : (!b) = true) : b = false := by cases b <;> first | rfl | cases h
theorem not_eq' {b : Bool} (h : (!b) = false) : b = true := by cases b <;> first | rfl | cases h
theorem ok_seqPar1 {i j : Nat} {ι : Sort _} {F : ι → Pr} {ρ ρ2 : ι → Rs} (h1 : EvX s r ta (fun P r' => ∃ x, P = F x ∧ r' = ρ x)) (h2 : ∀ x, Ev s (ρ x) tb Q (ρ2 x)) (k : ∀ x, Ok e ((s.set i (some (F x))).set j (some Q)) (ρ2 x) us po) : Ok e s r (tSeq (tPar i j (tCons ta (tCons tb tNil))) us) po := fun G H σ m l D d => h1 e G H σ m l _ fun v G1 H1 P' r' ⟨x, e1, e2⟩ m1 g1 pv => by
  subst e1 e2
  exact h2 x e G1 H1 σ m1 (l.mono g1) _ fun u G2 H2 m2 g2 pu => ⟨_, _, rfl, k x G2 H2 _ m2 (((l.mono (g1.trans g2)).set i (Pr.m _ g2 pv)).set j pu) D (d.mono (g1.trans g2))⟩
/-- what may stand for spans -/
inductive Sv where
  | dat (d : PyData)
  | sp
def rSpo (A : Ad) : Pr := ⟨fun G v => ∃ a dx fs, v = .ref a ∧ G a = some (.ins A.c_Spans dx fs), fun k ⟨a, dx, fs, e, h⟩ => ⟨a, dx, fs, e, k _ _ h⟩⟩
def rSv (A : Ad) (K : PySem.W.Frag) : Sv → Pr
  | .dat d => rDq K d
  | .sp => rSpo A
def noneB : PyData → Bool
  | .none => true
  | _ => false
def spB : Sv → Bool
  | .dat d => noneB d
  | .sp => true
def spI : Sv → Bool
  | .dat _ => false
  | .sp => true
def spN : Sv → Bool
  | .dat d => !noneB d
  | .sp => true
def letters : Str := "abcdefghijklmnopqrstuvwxyz0123456789"
def onlyB (d : PyData) : Bool := noneB d || madeB letters d
theorem dq_none {G : Hp} {v : V} {d : PyData} (h : (rDq K d).p G v) : decide (v = V.non) = noneB d := by
  cases (show Dq K G v d from h) <;> first | rfl | (exact decide_eq_false (fun z => by cases z))
theorem ev_notND (ha : Ev s r ta (rDq K d) r1) : Ev s r (tNotN ta) (rBl (!noneB d)) r1 := fun e G H σ m l W w => ha e G H σ m l _ fun x G1 H1 m1 g1 px => by
  rw [dq_none px]
  exact w _ G1 H1 m1 g1 rfl
theorem ev_notNS {A : Ad} {sv : Sv} (ha : Ev s r ta (rSv A K sv) r1) : Ev s r (tNotN ta) (rBl (spN sv)) r1 := by
  cases sv with
  | dat d => exact ev_notND ha
  | sp => exact ev_notN1 ha fun G v ⟨a, _, _, e, _⟩ z => by rw [e] at z; cases z
theorem ev_isiSp {Pg : Program} {mg : Str → Option Value} {A : Ad} (T2 : TxE Pg K mg A) {sv : Sv} (h : EvA s r t [rSv A K sv, rV (.ref A.c_Spans)] r1) : Ev s r (tCB (rIsi K) t) (rBl (spI sv)) r1 := by
  cases sv with
  | dat d => exact ev_isiC h (T2.k_Spans _ (tyD_mem d))
  | sp =>
    refine ev_cb h fun G H vs sm al W w => ?_
    cases al with
    | cons a1 al => cases al with
      | cons a2 al =>
        cases al
        obtain ⟨a, dx, fs, e1, e2⟩ := a1
        have a2 : _ = V.ref A.c_Spans := a2
        subst a2 e1
        exact ⟨_, _, _, _, true, rfl, .own _, T2.y_Sp H a dx fs (sm _ _ e2), T2.k_SpSp, w _ rfl⟩
end
/-! ### states -/
section
variable (A : Ad) (K : PySem.W.Frag) (cs : Cs) (Pp : Pr) (t n : Int) (k1 : List (Key × Pr))
def rSta : Pr := rOb A.c_State nsState [rTq (pairsP K (csP cs)), Pp, rInt t, rInt n, rDk k1, rDk [], rDk [], rKno A K Pp]
def owSta (b d1 d2 d3 : Addr) : Rs := [(b, cOb A.c_State nsState [rTq (pairsP K (csP cs)), Pp, rInt t, rInt n, rAt d1, rAt d2, rAt d3, rNon]), (d1, cDk k1), (d2, cDk []), (d3, cDk [])]
def S_stepped : Spec := fun Ps r Φ => ∃ (cs : Cs) (Pp : Pr) (t n : Int) (k1 : List (Key × Pr)), Ps = [rSta A K cs Pp t n k1] ∧ r = [] ∧ Φ = fun P r' => ∃ b d1 d2 d3 : Addr, P = rAt b ∧ r' = owSta A K cs Pp (t + 1) n k1 b d1 d2 d3
def waitB : PyData → Bool := intB fun i => decide (1 ≤ i) && decide (i ≤ 1000)
def S_wait : SpecR := fun Ps r Φ Ψ => ∃ (cs : Cs) (Pp : Pr) (t n : Int) (k1 : List (Key × Pr)) (d : PyData), Ps = [rSta A K cs Pp t n k1, rDq K d] ∧ r = [] ∧
  (Φ = fun P r' => ∃ (i : Int) (b d1 d2 d3 : Addr), d = .int i ∧ (1 ≤ i ∧ i ≤ 1000) ∧ P = rAt b ∧ r' = owSta A K cs Pp (t + i) n k1 b d1 d2 d3) ∧ Ψ = fun C P r' => C = A.c_BadCount ∧ P = rDq K d ∧ r' = [] ∧ waitB d = false
def copyB (cs : Cs) : PyData → Bool
  | .str z => (cs.lookup z).isSome
  | _ => false
def S_copy : SpecR := fun Ps r Φ Ψ => ∃ (cs : Cs) (Pp : Pr) (t n : Int) (k1 : List (Key × Pr)) (d : PyData), Ps = [rSta A K cs Pp t n k1, rDq K d] ∧ CsOk cs ∧ r = [] ∧
  (Φ = fun P r' => P = rDq K d ∧ r' = [] ∧ copyB cs d = true) ∧ Ψ = fun C P r' => C = A.c_NoCopy ∧ P = rDq K d ∧ r' = [] ∧ copyB cs d = false
/-- the open asks by number; their places' data -/
def askB (k1 : List (Key × Pr)) : PyData → Bool
  | .int i => (valP k1 (.inl i)).isSome
  | _ => false
def S_open : SpecR := fun Ps r Φ Ψ => ∃ (cs : Cs) (Pp : Pr) (t n : Int) (k1 : List (Key × Pr)) (d : PyData), Ps = [rSta A K cs Pp t n k1, rDq K d] ∧ r = [] ∧
  (Φ = fun P r' => r' = [] ∧ ∃ i, d = .int i ∧ valP k1 (.inl i) = some P) ∧ Ψ = fun C P r' => C = A.c_NoAsk ∧ P = rDq K d ∧ r' = [] ∧ askB k1 d = false
def S_ask : SpecR := fun Ps r Φ Ψ => ∃ (cs : Cs) (Pp : Pr) (t n : Int) (k1 : List (Key × Pr)) (dc : PyData) (sv : Sv) (dO : PyData), Ps = [rSta A K cs Pp t n k1, rDq K dc, rSv A K sv, rDq K dO] ∧ CsOk cs ∧ k1.length < 1000 ∧ (∀ z, dO = .str z → z.length ≤ sizeLine) ∧ r = [] ∧
  (Φ = fun P r' => copyB cs dc = true ∧ spB sv = true ∧ onlyB dO = true ∧ ∃ b d1 d2 d3 : Addr, P = rTs K [rAt b, rInt n] ∧ r' = owSta A K cs Pp (t + 1) (n + 1) (putP k1 (.inl n) (rTs K [rDq K dc, rInt (t + 1), rSv A K sv, rDq K dO])) b d1 d2 d3) ∧
  Ψ = fun C P r' => r' = [] ∧ ((C = A.c_NoCopy ∧ P = rDq K dc ∧ copyB cs dc = false) ∨ (C = A.c_BadSpans ∧ P = rSv A K sv ∧ copyB cs dc = true ∧ spB sv = false) ∨ (C = A.c_BadWord ∧ P = rDq K dO ∧ copyB cs dc = true ∧ spB sv = true ∧ onlyB dO = false))
def S_lost : SpecR := fun Ps r Φ Ψ => ∃ (cs : Cs) (Pp : Pr) (t n : Int) (k1 : List (Key × Pr)) (d : PyData), Ps = [rSta A K cs Pp t n k1, rDq K d] ∧ r = [] ∧
  (Φ = fun P r' => ∃ (i : Int) (b d1 d2 d3 : Addr), d = .int i ∧ (valP k1 (.inl i)).isSome = true ∧ P = rAt b ∧ r' = owSta A K cs Pp (t + 1) n (dropP k1 (.inl i)) b d1 d2 d3) ∧ Ψ = fun C P r' => C = A.c_NoAsk ∧ P = rDq K d ∧ r' = [] ∧ askB k1 d = false
end
end FL

namespace FL
open PySem PySem.Spec PyProof.Rows L2 StX FN FT FS FZ
/-! ### texts in sequence -/
theorem rising_pair : ∀ (l : List Str) (p : Str), risingS p l = true → (p :: l).Pairwise (fun a b => ¬ b.cps.toList < a.cps.toList)
  | [], p, _ => List.pairwise_singleton _ _
  | x :: r, p, h => by
    unfold risingS at h
    rw [Bool.and_eq_true, ltCps_eq] at h
    have h1 : ¬ x.cps.toList < p.cps.toList := by simpa using h.1
    have ih := rising_pair r x h.2
    refine List.pairwise_cons.mpr ⟨fun y hy => ?_, ih⟩
    rcases List.mem_cons.mp hy with z | hy
    · rw [z]; exact h1
    · have h2 := (List.pairwise_cons.mp ih).1 y hy
      exact fun h3 => h2 (Std.lt_of_lt_of_le h3 (List.not_lt.mp h1))
theorem sorted_pair : ∀ {l : List Str}, sortedS l = true → l.Pairwise (fun a b => ¬ b.cps.toList < a.cps.toList)
  | [], _ => .nil
  | x :: r, h => rising_pair r x h
theorem sorted_one {l l' : List Str} (p : l.Perm l') (h : sortedS l = true) (h' : sortedS l' = true) : l = l' :=
  List.Perm.eq_of_pairwise (fun a b _ _ h1 h2 => by
    have e := List.le_antisymm (List.not_lt.mp h2) (List.not_lt.mp h1)
    cases a with
    | mk a => cases b with
      | mk b => exact congrArg Str.mk (Array.toList_inj.mp (by first | exact e | exact e.symm))) (sorted_pair h) (sorted_pair h') p
theorem once_nodup : ∀ (xs zs : List Str), (zs ++ xs).Nodup → once zs xs = zs ++ xs
  | [], zs, _ => by rw [List.append_nil]; rfl
  | x :: xs, zs, h => by
    show once (more zs x) xs = _
    have hx : x ∉ zs := fun m => (List.nodup_append.mp h).2.2 x m x List.mem_cons_self rfl
    rw [show more zs x = zs ++ [x] from if_neg hx, once_nodup xs (zs ++ [x]) (by simpa using h)]
    simp
def small : Str := "abcdefghijklmnopqrstuvwxyz"
theorem made_ok {z : Str} (h : madeB small (.str z) = true) : PyData.strOk z = true ∧ z.length ≤ 8 ∧ 1 ≤ z.length := by
  have h : (decide (1 ≤ (z.length : Int)) && decide ((z.length : Int) ≤ 8) && (z.cps.toList.all fun c => decide (c ∈ small.cps.toList))) = true := h
  rw [Bool.and_eq_true, Bool.and_eq_true, decide_eq_true_eq, decide_eq_true_eq, List.all_eq_true] at h
  refine ⟨?_, by omega, by omega⟩
  unfold PyData.strOk
  rw [Array.all_eq_true']
  intro c hc
  have h2 := of_decide_eq_true (h.2 c (Array.mem_toList_iff.mpr hc))
  have h3 : ∀ c ∈ small.cps.toList, c < 0x110000 := by decide +kernel
  exact decide_eq_true (h3 c h2)
/-- copies as a keeper may have them -/
structure CsGood (cs : Cs) : Prop where
  ok : CsOk cs
  ne : 1 ≤ cs.length
  nm : ∀ c ∈ cs, madeB small (.str c.1) = true
  fo : ∀ c ∈ cs, ∀ z, c.2 = some z → madeB small (.str z) = true ∧ z ∈ cs.map (·.1)
  so : sortedS (cs.map (·.1)) = true
theorem call_lenDR {X : Cx} : CallR X (.builtin "len") (fun xs H Q => ∃ a kvs, xs = [V.ref a] ∧ Rd H a (.dK kvs) ∧ Q (.int kvs.length) H) := by
  intro pins s σ H xs us Q I r h
  obtain ⟨a, kvs, rfl, ha, q⟩ := h
  obtain ⟨u, rfl, ru⟩ := vals1 r
  cases ru
  exact d_len I ha fun t s' I' => ⟨.int kvs.length, H, I', ⟨t, rfl⟩, q⟩
section
variable {s s' s1 s2 : Sls} {r r' r1 r2 r3 rc rest post : Rs} {ta tb te tv td : TE} {t : TA} {P Q R : Pr} {K : PySem.W.Frag} {Φ : Pr → Rs → Prop} {Ps Qs : List Pr} {e : Ent} {po : Po} {ts us : TS} {cs : Cs}
theorem ev_lenD {kvs : List (Key × Pr)} (h : EvA s r t [rDk kvs] r1) : Ev s r (tCB (fun xs H Q => ∃ a kvs, xs = [V.ref a] ∧ Rd H a (.dK kvs) ∧ Q (.int kvs.length) H) t) (rInt (kvs.length : Int)) r1 := ev_cb h fun G H vs sm al W w => by
  cases al with
  | cons av al =>
    cases al
    obtain ⟨z, a, od, ws, ex, hs, ak⟩ := av
    subst ex
    exact ⟨a, ws, rfl, .inr ⟨od, sm _ _ hs⟩, by rw [ak.len]; exact w _ rfl⟩
def rPair (K : PySem.W.Frag) (c : Str × Option Str) : Pr := rTs K [rStr c.1, rOpt rStr c.2]
theorem pairs_cs : pairsP K (csP cs) = cs.map (rPair K) := by unfold pairsP csP; rw [List.map_map]; rfl
theorem ev_isiTq (h : EvA s r t [rTq Ps, rV (.ty "tuple")] r1) : Ev s r (tCB (rIsi K) t) (rBl true) r1 := ev_cb h fun G H vs sm al W w => by
  cases al with
  | cons a1 al => cases al with
    | cons a2 al =>
      cases al
      obtain ⟨z, a, od, ws, ex, hs, hd, ak⟩ := a1
      have a2 : _ = V.ty "tuple" := a2
      subst a2 ex
      exact ⟨_, _, _, _, true, rfl, .ty _, .fTuple (sm _ _ hs), kit_ty (by decide +kernel), w _ rfl⟩
theorem ev_isiTs (h : EvA s r t [rTs K Ps, rV (.ty "tuple")] r1) : Ev s r (tCB (rIsi K) t) (rBl true) r1 := ev_cb h fun G H vs sm al W w => by
  cases al with
  | cons a1 al => cases al with
    | cons a2 al =>
      cases al
      obtain ⟨z, a, ws, ex, hs, ak⟩ := a1
      have a2 : _ = V.ty "tuple" := a2
      subst a2 ex
      have ty : TyX K H (.ref a) (.type "tuple") := by
        rcases hs with (q | ⟨od, q⟩) | ⟨o, its, n, q, c, _⟩
        · exact .base (.tup (sm _ _ q))
        · exact .fTuple (sm _ _ q)
        · exact .kTuple q c
      exact ⟨_, _, _, _, true, rfl, .ty _, ty, kit_ty (by decide +kernel), w _ rfl⟩
theorem ev_strD {z : Str} (h : Ev s r te (rStr z) r1) : Ev s r te (rDq K (.str z)) r1 := h.imp fun G v e => by
  have e : v = .str z := e
  subst e
  exact .str z
theorem all2_strs {G : Hp} : ∀ {vs : List V} {zs : List Str}, All2 G vs (zs.map rStr) → vs = zs.map V.str
  | _, [], .nil => rfl
  | _, z :: zs, .cons a t => by rw [List.map_cons, ← all2_strs t]; exact congrArg (· :: _) a
theorem dp_strs {K : PySem.W.Frag} {H : Hp} : ∀ zs : List Str, DpAll K H (zs.map V.str) (zs.map PyData.str)
  | [] => .nil
  | z :: zs => .cons (.str z) (dp_strs zs)
theorem shaped_strs {zs : List Str} (h : ∀ z ∈ zs, PyData.strOk z = true) : SeqAt.shaped (.list (zs.map PyData.str)) = true := by
  have e1 : PyData.canLayAll0 (zs.map PyData.str) = true := by
    induction zs with
    | nil => rfl
    | cons z zs ih => simp only [List.map_cons, PyData.canLayAll0, PyData.canLay0, h z List.mem_cons_self, ih fun y hy => h y (List.mem_cons_of_mem _ hy), Bool.and_self]
  have e2 : PyData.depthAll (zs.map PyData.str) = 0 := by
    clear h e1
    induction zs with
    | nil => rfl
    | cons z zs ih => simp only [List.map_cons, PyData.depthAll, PyData.depth, ih, Nat.max_self]
  show (PyData.canLay0 _ && decide (PyData.depth _ ≤ 64)) = true
  rw [show PyData.canLay0 (.list (zs.map PyData.str)) = true by simp only [PyData.canLay0, e1], Bool.true_and]
  refine decide_eq_true ?_
  simp only [PyData.depth, e2]
  decide
theorem eqv_strs : ∀ zs : List Str, PyData.eqvAll (zs.map PyData.str) (zs.map PyData.str) = true
  | [] => by simp only [List.map_nil, PyData.eqvAll]
  | z :: zs => by simp only [List.map_cons, PyData.eqvAll, PyData.eqv, beq_self_eq_true, eqv_strs zs, Bool.and_self]
/-- != of two lists with the same texts -/
theorem ev_neLS {zs : List Str} (ha : Ev s r ta (rLs K (zs.map rStr)) r1) (hb : Ev s r1 tb (rLs K (zs.map rStr)) r2) (hz : ∀ z ∈ zs, PyData.strOk z = true) : Ev s r (tOp (rNeD K) ta tb) (rBl false) r2 := ev_op ha hb fun G H x y sm ⟨_, a, vs, e1, h1, q1⟩ ⟨_, b, ws, e2, h2, q2⟩ W w => by
  have f1 := all2_strs q1
  have f2 := all2_strs q2
  subst f1 f2 e1 e2
  refine ⟨_, _, .lst (sm.seq h1) (dp_strs zs), .lst (sm.seq h2) (dp_strs zs), shaped_strs hz, shaped_strs hz, ?_⟩
  rw [show PyData.eqv (.list (zs.map PyData.str)) (.list (zs.map PyData.str)) = true by simp only [PyData.eqv, eqv_strs]]
  exact w _ rfl
theorem ev_inLS {z : Str} {zs : List Str} (ha : Ev s r ta (rStr z) r1) (hb : Ev s r1 tb (rLs K (zs.map rStr)) r2) (hz : z ∈ zs) : Ev s r (tOp (rIn K false) ta tb) (rBl true) r2 := ev_op ha hb fun G H x y sm hx ⟨_, b, ws, e2, h2, q2⟩ W w => by
  have f2 := all2_strs q2
  have hx : x = .str z := hx
  subst f2 e2 hx
  refine ⟨b, _, rfl, .inl (sm.seq h2), rfl, by rw [List.all_map]; exact List.all_eq_true.mpr fun _ _ => rfl, ?_⟩
  have : inV (.str z) (zs.map V.str) = true := List.any_eq_true.mpr ⟨.str z, List.mem_map_of_mem hz, by simp [eqV]⟩
  simp only [Bool.false_eq_true, if_false, this]
  exact w _ rfl
end
end FL

/-! Several except clauses, some of which name the exception. -/
namespace S1
open PySem PySem.Spec PyProof.Rows L2 StX
abbrev Cla := Bool × Value × (Addr → Value → Option Addr → TS)
/-- behind a suite that names its exception -/
def offD (i : Nat) (D : Ends) : Ends := { nx := fun τ G => D.nx (τ.set i none) G, rt := D.rt, bk := fun τ G => D.bk (τ.set i none) G, ct := fun τ G => D.ct (τ.set i none) G }
/-- what the clauses wish of the body's exceptions: one of them takes each -/
def wCla (K : PySem.W.Frag) (m i : Nat) (D : Ends) : List Cla → WX
  | [] => fun _ _ _ _ => False
  | (true, c, ts) :: r => fun cls d τ G => ∃ b, PySem.W.exmOne K cls c = some b ∧ (b = true → τ.length = m → ∀ a, G a = none → ts a cls d (offD i D) (τ.set i (some (.ref a))) G) ∧ (b = false → wCla K m i D r cls d τ G)
  | (false, c, ts) :: r => fun cls d τ G => ∃ b, PySem.W.exmOne K cls c = some b ∧ (b = true → ∀ a, G a = none → ts a cls d D τ G) ∧ (b = false → wCla K m i D r cls d τ G)
abbrev Sui (X : Cx) (ss : List Stmt) (ts : Addr → Value → Option Addr → TS) : Prop := ∀ (a : Addr) (oe : Obj) (cls : Value) (d : Option Addr) (pn : List (Addr × Obj)), Zc cls d oe → (∃ vs, oe.data = .fields vs) → PSs (X.suite a ((a, oe) :: pn)) ss (ts a cls d)
inductive ClOk (X : Cx) (n : Str) : List ExceptHandler → List Cla → Prop
  | nil : ClOk X n [] []
  | as {x : Str} {c : Value} {ts : Addr → Value → Option Addr → TS} {b₀ : Stmt} {suite : List Stmt} {np pos' : Pos} {hds : List ExceptHandler} {l : List Cla} (nam : Names X x c) (sui : Sui X (b₀ :: suite) ts) (r : ClOk X n hds l) :
      ClOk X n (.ExceptHandler (some (.Name x np)) (some n) (b₀ :: suite) pos' :: hds) ((true, c, ts) :: l)
  | no {x : Str} {c : Value} {ts : Addr → Value → Option Addr → TS} {b₀ : Stmt} {suite : List Stmt} {np pos' : Pos} {hds : List ExceptHandler} {l : List Cla} (nam : Names X x c) (sui : Sui X (b₀ :: suite) ts) (r : ClOk X n hds l) :
      ClOk X n (.ExceptHandler (some (.Name x np)) none (b₀ :: suite) pos' :: hds) ((false, c, ts) :: l)
section
variable {X : Cx} {n : Str} {i : Nat} {body : List Stmt} {h₀ : ExceptHandler} {hds : List ExceptHandler} {l : List Cla} {pos : Pos} {tb : WX → TS}
theorem ps_try_cla (stk : X.stack = X.env :: X.outer) (frm : X.env.frame = some X.env.locals) (nod : X.N.Nodup) (hi : X.N[i]? = some n) (loc : X.env.kindOf n = some .local)
    (hb : ∀ (W : WX) (pn : List (Addr × Obj)) (xe : Value → Shared → Prop), Takes (X.tr pn xe) W → PassesOwn (model X.prog X.w) X.A X.env xe → PSs (X.tr pn xe) body (tb W))
    (cl : ClOk X n (h₀ :: hds) l) : PS X (.Try body (h₀ :: hds) [] [] pos) (fun D σ H => tb (wCla X.K X.N.length i D l) D σ H) := by
  refine ⟨fun pins s σ H D I wish => ?_⟩
  have ok := I.ok
  have frs_ : X.A.frames = some (X.env :: X.outer) := by rw [ok.frames, stk]
  refine wpAny_Try_except ?_
  refine wpAny_mono ((hb (wCla X.K X.N.length i D l) (X.pn ++ pins) (fun u t1 => wpAny (model X.prog X.w) X.A (noteFrame u X.env) (fun _ t2 => wpAny (model X.prog X.w) X.A (setFlight u none) (fun _ t3 => wpAny (model X.prog X.w) X.A (handleBy u X.env (h₀ :: hds)) (SP X pins D) X.xe t3) X.xe t2) X.xe t1) (fun u t xx => ?_) PassesOwn.looking).run [] s σ H D (I.toTry _) wish) (fun f t1 got => ?_) (fun _ _ z => z)
  · obtain ⟨a, B, sI, pins', τ, G, cls, d, rfl, Jt, nb, up, sky, na, os, ag, wsh⟩ := xx
    have J : Inv X pins τ G sI := Jt.ofTry ok
    have sky1 : Sky B (X.env :: X.outer) a (Zc cls d) X.env.locals t.heap := by rw [← stk]; exact sky
    show wpAny (model X.prog X.w) X.A (noteFrame (.ref a) X.env) _ _ _
    refine Sky.land Zc.steady frs_ frm sky1 fun h3 fl3 up3 => ?_
    have J3 : Inv X pins τ G { t with heap := h3 } := J.landed nb fl3.1 (up.trans up3) os ag
    obtain ⟨o3, vs3, at3, z3, d3⟩ := fl3.there
    have offFr : a ∉ frs (X.env :: X.outer) := fun hm => by
      obtain ⟨_, o', e', hnf⟩ := fl3.2.2.1.mem hm
      rw [at3] at e'
      cases e'
      exact hnf _ d3
    have offL : a ≠ X.env.locals := fun z => offFr (List.mem_filterMap.mpr ⟨X.env, List.mem_cons_self, by rw [frm, z]⟩)
    have offF : a ∉ X.fs := fun hm => by
      obtain ⟨e, he, q⟩ := List.mem_filterMap.mp hm
      exact offFr (List.mem_filterMap.mpr ⟨e, List.mem_cons_of_mem _ he, q⟩)
    have S3 := J3.suite at3 d3 na offL offF
    have look : ∀ {x : Str} {np : Pos} {c : Value} {Q : Value → Shared → Prop} {E : Value → Shared → Prop}, Names X x c → Q c { t with heap := h3 } → wpAny (model X.prog X.w) (X.A.mark (some (.ref a))) (eval (.Name x np) X.env) Q E { t with heap := h3 } := fun {x np c Q E} nam q => by
      obtain ⟨hg, hdbg, hm | ⟨hm, hv, hnn⟩⟩ := nam
      · exact ld_glob (X := X.suite a ((a, o3) :: (X.pn ++ pins))) S3 hg hm q hdbg
      · exact ld_blt (X := X.suite a ((a, o3) :: (X.pn ++ pins))) S3 hg hm hv q hnn hdbg
    have hit : ∀ {c : Value} {b : Bool}, PySem.W.exmOne X.K cls c = some b → _ := fun {c b} h => PySem.W.exm_one (M := model X.prog X.w) (J3.kIn) (show PySem.W.Looks (model X.prog X.w) h3 (typeOf (.ref a)) cls from fun A Q E s k q => wpAny_typeOf_ref (k _ _ at3) (by rw [z3.1]; exact q)) h
    have go : ∀ {hs' : List ExceptHandler} {l' : List Cla}, ClOk X n hs' l' → wCla X.K X.N.length i D l' cls d τ G → wpAny (model X.prog X.w) X.A (handleBy (.ref a) X.env hs') (SP X pins D) X.xe { t with heap := h3 } := by
      intro hs' l' ck
      induction ck with
      | nil => exact fun w => w.elim
      | as nam sui r ih =>
        rintro ⟨b, hb1, yes, no⟩
        refine wpAny_handleBy_cons (codeAny_handlers_test ?_) (by intro q; cases q)
        refine look nam ((hit hb1).here ?_)
        cases b with
        | false => exact ih (no rfl)
        | true =>
          refine codeAny_handlers_suite_as ?_
          refine HandSPX.lands_againZ fl3 fun h4 fl4 up4 => ?_
          obtain ⟨o4, vs4, at4, z4, d4⟩ := fl4.there
          have S4 := (J.landed nb fl4.1 ((up.trans up3).trans up4) os ag : Inv X pins τ G { t with heap := h4 }).suite at4 d4 na offL offF
          refine store_ok (X := X.suite a ((a, o4) :: (X.pn ++ pins))) (v := .ref a) S4 nod hi (.inl loc) rfl (fun s5 S5 => ?_) (.inr loc)
          refine wpAny_mono ((sui a o4 cls d (X.pn ++ pins) z4 ⟨_, d4⟩).run [] s5 _ G _ S5 (yes rfl J.len a na)) (fun f s6 got => ?_) (fun _ _ z => False.elim z)
          have fin : ∀ {pos' : Pos} {σ6 : L2.St} {H6 : Hp} {Q : Shared → Prop}, Inv (X.suite a ((a, o4) :: (X.pn ++ pins))) [] σ6 H6 s6 → (∀ s7, Inv X pins (σ6.set i none) H6 s7 → Q s7) →
              wpAny (model X.prog X.w) X.A (do bindName X.env n .none; unbindBehindTheSuite X.env n pos') (fun _ s7 => Q s7) X.xe s6 := fun {pos' σ6 H6 Q} S6 hq => gone_ok (S6.unsuite ok) nod hi loc hq
          cases f with
          | next =>
            obtain ⟨σ6, H6, S6, q6⟩ := got
            exact fin S6 fun s7 J7 => ⟨_, _, J7, q6⟩
          | brk =>
            obtain ⟨σ6, H6, S6, q6⟩ := got
            exact fin S6 fun s7 J7 => ⟨_, _, J7, q6⟩
          | cont =>
            obtain ⟨σ6, H6, S6, q6⟩ := got
            exact fin S6 fun s7 J7 => ⟨_, _, J7, q6⟩
          | ret u =>
            obtain ⟨v6, σ6, H6, S6, r6, q6⟩ := got
            exact fin S6 fun s7 J7 => ⟨_, _, _, J7, r6, q6⟩
      | no nam sui r ih =>
        rintro ⟨b, hb1, yes, no⟩
        refine wpAny_handleBy_cons (codeAny_handlers_test ?_) (by intro q; cases q)
        refine look nam ((hit hb1).here ?_)
        cases b with
        | false => exact ih (no rfl)
        | true =>
          refine codeAny_handlers_suite ?_
          refine HandSPX.lands_againZ fl3 fun h4 fl4 up4 => ?_
          obtain ⟨o4, vs4, at4, z4, d4⟩ := fl4.there
          have S4 := (J.landed nb fl4.1 ((up.trans up3).trans up4) os ag : Inv X pins τ G { t with heap := h4 }).suite at4 d4 na offL offF
          refine wpAny_mono ((sui a o4 cls d (X.pn ++ pins) z4 ⟨_, d4⟩).run [] _ _ G _ S4 (yes rfl a na)) (fun f s6 got => ?_) (fun _ _ z => False.elim z)
          cases f with
          | next =>
            obtain ⟨σ6, H6, S6, q6⟩ := got
            exact ⟨_, _, S6.unsuite ok, q6⟩
          | brk =>
            obtain ⟨σ6, H6, S6, q6⟩ := got
            exact ⟨_, _, S6.unsuite ok, q6⟩
          | cont =>
            obtain ⟨σ6, H6, S6, q6⟩ := got
            exact ⟨_, _, S6.unsuite ok, q6⟩
          | ret u =>
            obtain ⟨v6, σ6, H6, S6, r6, q6⟩ := got
            exact ⟨_, _, _, S6.unsuite ok, r6, q6⟩
    exact go cl wsh
  · cases f with
    | next =>
      obtain ⟨τ, G, Jt, q⟩ := got
      exact wpAny_execs_nil ⟨τ, G, Jt.ofTry ok, q⟩
    | brk =>
      obtain ⟨τ, G, Jt, q⟩ := got
      exact ⟨τ, G, Jt.ofTry ok, q⟩
    | cont =>
      obtain ⟨τ, G, Jt, q⟩ := got
      exact ⟨τ, G, Jt.ofTry ok, q⟩
    | ret u =>
      obtain ⟨v, τ, G, Jt, r, q⟩ := got
      exact ⟨v, τ, G, Jt.ofTry ok, r, q⟩
end
end S1

/-! A lambda handed to a def: what becomes of the table of code objects is told in full. -/
namespace S1
open PySem PySem.Spec PyProof.Rows L2 StX LamX
/-- the heap ahead of and behind the making of a lambda -/
def Chg (P : Addr) (q : Str) (H H1 : Hp) : Prop := H1 = H ∨ ∃ (ps more : Array Value) (c : Addr), H P = some (.tbl ps) ∧ H c = none ∧ H1 = upd (upd H P (.tbl (ps ++ more))) c (CodeO c q) ∧ TriplesOk (ps ++ more).toList ∧ ∀ (pos : Pos) (cv : Value), codeAmong pos (ps ++ more).toList = some cv → codeAmong pos ps.toList = some cv ∨ cv = .ref c
def tLamC (P : Addr) (q : Str) (TT : (XK → Hp → VK → Prop) → Hp → VK → Prop) (t : XK → TE) : TE := fun σ H Q => TabS H P q ∧ ∀ H1, Chg P q H H1 → TT (fun E H' Q' => t E σ H' Q') H1 Q
section
variable {X : Cx} {pins : List (Addr × Obj)} {σ : L2.St} {H : Hp} {s : Shared}
theorem lam_newC {c P : Addr} {params : Arguments} {body : Expr} {scope : Scope} {pos : Pos} {E Q : Value → Shared → Prop} (I : Inv X pins σ H s) (B : TabB X.base X.mg c P) (code : X.env.code = .ref c)
    (tab : TabS H P (X.env.qual ++ "<lambda>")) (nodef : defaultsOf params X.env = ([], [])) (caught : ∀ y ∈ scope.names, y.2 = .free → ∃ c, X.env.cells.lookup y.1 = some c)
    (k : ∀ (f c' : Addr) (pm ct : Value) (H1 : Hp) (s' : Shared), Inv X pins σ H1 s' → Chg P (X.env.qual ++ "<lambda>") H H1 →
      s'.heap.get? f = some (PySem.W.kla_obj "<lambda>" (X.env.qual ++ "<lambda>") params body scope (cloFrom X.env.cells scope.names []) pm c' ct) → H1 f = none → f ∉ frs X.stack → H1 c' = some (CodeO c' (X.env.qual ++ "<lambda>")) → Q (.ref f) s') :
    wpAny (model X.prog X.w) X.A (eval (.Lambda params body scope pos) X.env) Q E s := by
  obtain ⟨ps, hP, tri, known⟩ := id tab
  have look : s.heap.get? P = some { cls := .none, data := .fields ps } := I.hok P _ hP
  have bm : s.heap.BuiltinsAt X.mg P := B.bm.keeps I.bk
  have off : ∀ f, s.heap.objs.size ≤ f → f ∉ frs X.stack := fun f ge hm => (List.mem_cons.mp (I.stkSub _ hm)).elim
    (fun e => by have := I.lt; rw [← e] at this; exact absurd (Nat.lt_of_lt_of_le this ge) (Nat.lt_irrefl _)) fun e => I.nofs ge e
  refine PySem.W.kla_eval nodef ?_
  cases hc : codeAmong pos ps.toList with
  | some cv =>
    obtain ⟨c', rfl, co⟩ := known pos cv hc
    refine PySem.W.kla_makeFunctionHit (c := c) (ps := ps) (mg := X.mg) (P := P) (closure_ok caught) I.ok.glob (I.mod.glob.keeps I.bk) code (B.code.keeps I.bk) look tri hc bm fun ct h' tk keep size => ?_
    exact k h'.objs.size c' ((X.mg "__name__").getD .none) ct H _ (I.kept fun b o e => Heap.get?_push_of_some _ (keep b o e)) (.inl rfl) (Heap.get?_push_size _ rfl) (I.hok.fresh size) (off _ size) co
  | none =>
    refine PySem.W.kla_makeFunction (c := c) (ps := ps) (mg := X.mg) (P := P) (closure_ok caught) I.ok.glob (I.mod.glob.keeps I.bk) code (B.code.keeps I.bk) look tri hc B.gP bm fun c' ct h' tk keep ge lt rec_ row => ?_
    obtain ⟨c2, oc, vs, t, e2, at_, dd, nm⟩ := rec_
    cases e2
    have size : s.heap.objs.size ≤ h'.objs.size := Nat.le_trans ge (Nat.le_of_lt lt)
    have fresh : H c' = none := I.hok.fresh ge
    have I1 := inv_table (q := X.env.qual ++ "<lambda>") (more := #[rawInt pos.line, rawInt pos.col, .ref c']) (t' := tk) (h' := h'.push (PySem.W.kla_obj "<lambda>" (X.env.qual ++ "<lambda>") params body scope (cloFrom X.env.cells scope.names []) ((X.mg "__name__").getD .none) c' ct)) I hP
      (fun b o n e => Heap.get?_push_of_some _ (keep b o n e)) (Heap.get?_push_of_some _ row) ge ⟨oc, vs, t, Heap.get?_push_of_some _ at_, dd, nm⟩
    have eL : (ps ++ #[rawInt pos.line, rawInt pos.col, .ref c']).toList = ps.toList ++ [rawInt pos.line, rawInt pos.col, .ref c'] := by simp
    refine k h'.objs.size c' ((X.mg "__name__").getD .none) ct _ _ I1 (.inr ⟨ps, _, c', hP, fresh, rfl, by rw [eL]; exact PySem.TriplesOk_snoc _ _ _ _ tri, fun p' cv hcv => among_app _ tri (by rw [eL] at hcv; exact hcv)⟩) (Heap.get?_push_size _ rfl) ?_ (off _ size) upd_same
    · rw [upd_ne (Nat.ne_of_gt lt), upd_ne (Nat.ne_of_gt (Nat.lt_of_lt_of_le (Heap.lt_size look) size))]
      exact I.hok.fresh size
end
section
variable {X : Cx}
/-- x(lambda: body), for a def that gives TT of it -/
theorem pe_lamC {TT : (XK → Hp → VK → Prop) → Hp → VK → Prop} {x a : Str} {g c P : Addr} {k : Nat} {pg : Arguments} {bg : List Stmt} {sg : Scope} {dV kV doc pm cdv ct oc : Value} {an od : Option Addr} {osl : Array (Option Value)} {Ng : List Str}
    {params : Arguments} {body : Expr} {scope : Scope} {t : XK → TE} {p lpos pos : Pos} (lk : X.K.lookup g = some ⟨oc, od, .func (PySem.W.fnOf x x pg bg sg dV kV doc pm an cdv ct), osl⟩) (hm : X.mg x = some (.ref g)) (hk : PySem.W.keepIn X.K (.ref g) = true)
    (cd : PySem.W.codeIn X.K cdv x = true) (bnd : L2.Binds X.K (PySem.W.fnOf x x pg bg sg dV kV doc pm an cdv ct) [a] []) (Sg : FnScope Ng [a] sg) (h0 : Ng[0]? = some a) (va : Vis sg a)
    (gives : GivesTo X Ng x sg g cdv bg a (X.env.qual ++ "<lambda>") TT) (B : TabB X.base X.mg c P) (code : X.env.code = .ref c) (room : Room (k + 2) X.A) (L : LamS X.env.scope scope)
    (nodef : defaultsOf params X.env = ([], [])) (noargs : ∀ (q : Str) (cl : List (Str × Addr)) (pm cv ctv : Value), bindArgs (PySem.W.kla_fn "<lambda>" q params body scope cl pm cv ctv) ⟨[], []⟩ = pure [])
    (inside : ∀ (A : Around) (outer : List Env) (s : Shared) (H : Hp) (E : XK) (f c' : Addr), Room k (A.deeper (lamEnv X scope s.heap.objs.size f c')) → PE (lamCx X A outer s H E scope f c') body (t E)) (hg : Gl X x := by rfl)
    (hdb : (x == ("__debug__" : Str)) = false := by decide) (ha1 : (a == ("__debug__" : Str)) = false := by decide) (ha2 : (a == ("__classdict__" : Str)) = false := by decide) :
    PE X (.Call (.Name x p) [.Lambda params body scope lpos] [] pos) (tLamC P (X.env.qual ++ "<lambda>") TT t) := by
  refine ⟨fun pins s σ H Q I ⟨tab, wish⟩ => wpAny_Call_Name_kw (ld_glob I hg hm ?_ hdb)⟩
  refine PySem.W.callWith_K (h₀ := X.base) I.ok.mod.kin hk ?_ (by rfl) (by rfl)
  show wpAny _ _ (spliced ((false, eval (.Lambda params body scope lpos) X.env) :: backTo pos (starEach [] X.env))) _ _ s
  refine Calls.spliced_cons (lam_newC I B code tab nodef (L.has I.ok) fun f c' pm' ctv H1 s' I1 ch of_ nf nfr co => Calls.spliced_nil ⟨I1.kIn, ?_⟩)
  have go : codeAny (model X.prog X.w) X.A (.call (.ref g) ⟨[.ref f], []⟩) (CR C8.CX0 X.stack X.prog X.w H1 s' Q C8.E0) s' := by
    refine run_ofS (N := Ng) (ps := [a]) (vs := [.ref f]) (us := [.ref f]) lk cd Sg room I1.env0 (bnd s' [.ref f] I1.kIn rfl) (.cons rfl .nil) rfl fun room' => ?_
    obtain ⟨t', d', w'⟩ := gives f c' s' H1 Q (fun E H' Q' => t E σ H' Q') (fun W pn xe E p1 p2 tk hW => pe_act (i := 0) I1 L of_ nf nfr (noargs _ _ _ _ _) tk hW room' (fun A outer s H r2 => inside A outer s H E f c' r2) h0 va ha1 ha2) co (wish H1 ch)
    exact ⟨t', d'.nox, w'⟩
  refine wpAny_call (codeAny_mono go fun r s2 hq => ?_)
  cases r with
  | error e => exact (show False from hq).elim
  | ok fl =>
    cases fl with
    | ret u => exact I1.after hq
    | next => exact False.elim hq
    | brk => exact False.elim hq
    | cont => exact False.elim hq
end
end S1

/-! o.m(e, .., k = v, ..) -/
namespace S1
open PySem PySem.Spec PyProof.Rows L2 StX
def tMethN (C : Addr) (m : Str) (n mk : Nat) (sp : Sp) (gV : List V → List V → List V) (E : XK) (ta : TE) (t tk : TA) : TE := fun σ H Q => ta σ H fun x H1 => ∃ a dx fs, x = .ref a ∧ H1 a = some (.ins C dx fs) ∧ fs.lookup m = none ∧ t σ H1 fun vs H2 => tk σ H2 fun zs H3 => vs.length = n ∧ zs.length = mk ∧ sp (gV (x :: vs) zs) H3 Q E
section
variable {X : Cx} {CX : CXT} {k n : Nat} {f C : Addr} {fd : FuncData} {ps ks : List Str} {sp : Sp} {E : XK} {m : Str} {p apos pos : Pos} {o e : Expr} {es : List Expr} {kws : List Keyword} {ta : TE} {t tk : TA} {g : List Value → List Value → List Value} {gV : List V → List V → List V}
theorem pe_methN {pl : Sem Bool} (he : PE X o ta) (c : Cls X.K C) (hm : Meth X.K C m f) (F : FnOk X.prog X.w X.K X.mg X.base CX k f fd ps sp) (hr : Room k X.A) (hb : KBn X.K fd ps (n + 1) ks g gV) (hx : Passes CX X E) (ha : PA X (e :: es) t) (hkw : PK X kws tk)
    (hall : (backToKw pos (keywordEach kws X.env)).all (·.1.isSome) = true := by rfl) (hks : (backToKw pos (keywordEach kws X.env)).filterMap (·.1) = ks := by rfl) (hst : starEach (e :: es) X.env = (false, eval e X.env) :: starEach es X.env := by rfl)
    (hpl : ((backTo pos (starEach (e :: es) X.env)).any (·.1) || (backToKw pos (keywordEach kws X.env)).any (·.1.isNone)) = false := by rfl)
    (way : eval (.Call (.Attribute o m apos) (e :: es) kws pos) X.env = (do
      let ov ← eval o X.env
      standAt apos.atName
      let (f, first) ← holding [ov] (getMethod ov m pl)
      callWith pos f first (backTo pos (starEach (e :: es) X.env)) (backToKw pos (keywordEach kws X.env))) := by rfl) :
    PE X (.Call (.Attribute o m apos) (e :: es) kws pos) (tMethN C m n ks.length sp gV E ta t tk) := by
  refine ⟨fun pins s σ H Q I h => PySem.W.methodCall_KW (pl := pl) (thn (he.run pins s σ H _ I h) fun u s1 ⟨x, H1, I1, rx, a, dx, fs, ex, ea, l, q⟩ => ?_) way⟩
  subst ex
  obtain rfl : u = Value.ref a := rx
  refine getmeth_ok I1 ea c hm l (PySem.W.callWith_KW (first := [.ref a]) (h₀ := X.base) I.ok.mod.kin hm.kp hall (thn (ha.run pos pins s1 σ H1 _ I1 q) fun us s2 ⟨vs, H2, I2, r, q2⟩ => ?_) hpl hst)
  refine thn (hkw.run pos pins s2 σ H2 _ I2 q2) fun ws s3 ⟨zs, H3, I3, rz, l1, l2, q3⟩ => ⟨I3.kIn, ?_⟩
  rw [hks]
  exact run_fnN (n := n + 1) (us := .ref a :: us) (vs := .ref a :: vs) F hr hb hx I3 (.cons rfl r) rz (by rw [List.length_cons, l1]) l2 q3
end
end S1

/-! sorted of pairs whose first items are different texts. -/
namespace S1
open PySem PySem.Spec PyProof.Rows L2 StX
def IsTx (h : Heap) (v : Value) (z : Str) : Prop := ∃ a o t u n, v = .ref a ∧ h.get? a = some o ∧ o.cls = .type "tuple" ∧ o.data = .seq #[.str z t, u] n
def ltT {α : Type} (k : α → Str) (x y : α) : Bool := decide ((k x).cps.toList < (k y).cps.toList)
theorem ltT_swo {α : Type} (k : α → Str) : SrtO.Swo (ltT k) := by
  refine ⟨fun x y h => ?_, fun x y z h1 h2 => ?_⟩
  · have a := of_decide_eq_true h
    exact decide_eq_false fun b => List.lt_irrefl _ (List.lt_trans a b)
  · have a := of_decide_eq_false h1
    have b := of_decide_eq_false h2
    exact decide_eq_false fun c => a (Std.lt_of_le_of_lt (List.not_lt.mp b) c)
theorem IsTx.keeps {h h' : Heap} {v : Value} {z : Str} (p : IsTx h v z) (k : ∀ b o, h.get? b = some o → o.cls = .type "tuple" → h'.get? b = some o) : IsTx h' v z := by
  obtain ⟨a, o, t, u, n, e, at_, c, d⟩ := p
  exact ⟨a, o, t, u, n, e, k _ _ at_ c, c, d⟩
theorem tx_firsts {h : Heap} {k : Value → Str} : ∀ {vs : List Value}, (∀ v ∈ vs, IsTx h v (k v)) → ∃ fs : List Value, PySem.W.KatTups h vs fs ∧ fs.length = vs.length ∧ ∀ f ∈ fs, ∃ x t, f = Value.str x t
  | [], _ => ⟨[], .nil, rfl, fun _ hm => nomatch hm⟩
  | v :: vs, hp => by
    obtain ⟨fs, h1, h2, h3⟩ := tx_firsts (vs := vs) fun y hm => hp y (List.mem_cons_of_mem _ hm)
    obtain ⟨a, o, t, u, n, e, at_, c, d⟩ := hp v List.mem_cons_self
    refine ⟨.str (k v) t :: fs, ⟨⟨a, o, _, n, e, at_, c, d, rfl⟩, h1⟩, congrArg (· + 1) h2, fun f hm => ?_⟩
    rcases List.mem_cons.mp hm with z | hm
    · exact ⟨_, _, z⟩
    · exact h3 f hm
section
variable {prog : Program} {w : World} {A : Around} {s : Shared}
theorem tx_cmp {vs : List Value} {k : Value → Str} (hp : ∀ v ∈ vs, IsTx s.heap v (k v)) (inj : ∀ v ∈ vs, ∀ u ∈ vs, k v = k u → v = u) : SrtO.Cmp prog w A s (tuples' true) (fun p => p.1 ∈ vs) (SrtO.lt2 (ltT k)) := by
  intro p q hm hm'
  have hm : p.1 ∈ vs := hm
  have hm' : q.1 ∈ vs := hm'
  show wpAny (model prog w) A (keyLt' (tuples' true) p.1 q.1) (fun r s' => s' = s ∧ r = ltT k p.1 q.1) (fun _ _ => False) s
  generalize p.1 = x at hm ⊢
  generalize q.1 = y at hm' ⊢
  obtain ⟨a, o, t, u, n, e, at_, hc, hd⟩ := hp _ hm
  obtain ⟨a', o', t', u', n', e', at', hc', hd'⟩ := hp _ hm'
  have same : k x = k y → u = u' := fun z => by
    have i := inj _ hm _ hm' z
    rw [e, e'] at i
    cases i
    rw [at_] at at'
    cases at'
    have j := hd.symm.trans hd'
    injection j with j1 j2
    have j3 := congrArg (fun a => a.toList[1]?) j1
    simpa using j3
  unfold ltT
  generalize k x = zx at *
  generalize k y = zy at *
  subst e e'
  refine PySem.W.kat_lt at_ hd at' hd' ?_
  show PySem.W.KatLex prog w A true (decide (2 < 2)) _ [(.str zx t, .str zy t'), (u, u')] 0 s
  refine PySem.W.kat_cons (SeqAt.EqAt.str_str zx t zy t' prog w _ _ ?_)
  refine PySem.W.kat_go (fun e1 => ?_) (fun e1 => ?_)
  · have ex : zx = zy := by simpa using e1
    obtain rfl := same ex
    subst ex
    refine PySem.W.kat_yes (PySem.W.kat_cons (SeqAt.EqAt.same u prog w _ _ (PySem.W.kat_yes (PySem.W.kat_nil ⟨rfl, ?_⟩))))
    exact (decide_eq_false (List.lt_irrefl _)).symm
  · exact PySem.W.kat_no (oneLt_str ⟨rfl, rfl⟩)
theorem tx_sortable {a : Addr} {vs : List Value} {k : Value → Str} (h0 : 0 < vs.length) (hp : ∀ v ∈ vs, IsTx s.heap v (k v)) (inj : ∀ v ∈ vs, ∀ u ∈ vs, k v = k u → v = u) (ha : ∀ o, s.heap.get? a = some o → o.cls ≠ .type "tuple") : SrtO.SortableO prog w A s a vs (ltT k) := by
  intro h' keep
  have hp' : ∀ v ∈ vs, IsTx h' v (k v) := fun v hm => (hp v hm).keeps fun b o e c => keep b o (fun z => by subst z; exact ha o e c) e
  obtain ⟨fs, h1, h2, h3⟩ := tx_firsts hp'
  refine ⟨tuples' true, fun Q E hq => ?_, tx_cmp hp' inj⟩
  refine PySem.W.kat_kind (T := .type "str") h1 (by omega) (fun f hm => ?_) (by rfl) ?_
  · obtain ⟨x, t, rfl⟩ := h3 f hm
    exact PySem.W.Looks.now
  · rw [show (Value.type "str" != Value.type "tuple") = true by first | decide +kernel | rfl | decide]
    exact hq
end
section
variable {X : Cx}
def rSortedTx (K : PySem.W.Frag) : List V → Hp → VK → Prop := fun vs H Q => ∃ (a : Addr) (xs : List V) (k : V → Str), vs = [V.ref a] ∧ SqL K H a xs ∧ (∀ x ∈ xs, ∃ t y, x = V.ref t ∧ H t = some (.tup [.str (k x), y])) ∧ (∀ x ∈ xs, ∀ y ∈ xs, k x = k y → x = y) ∧
  ∀ ys p, List.Perm ys xs → ys.Pairwise (fun x y => ¬ (k y).cps.toList < (k x).cps.toList) → H p = none → Q (.ref p) (upd H p (.lst ys))
theorem cr_sortedTx : CallR X (.builtin "sorted") (rSortedTx X.K) := by
  intro pins s σ H vs us Q I r h
  obtain ⟨a, xs, k, rfl, hs, hx, inj, q⟩ := h
  obtain ⟨u, rfl, ru⟩ := vals1 r
  obtain rfl : u = Value.ref a := ru
  obtain ⟨its, rv, hl, hz⟩ := I.list hs
  obtain ⟨o, ho, hc, n, hd⟩ := hl.isList
  obtain ⟨e1, e2⟩ := refs_back rv fun x m => by
    obtain ⟨t, _, e, _⟩ := hx x m
    exact ⟨t, e⟩
  have back : ∀ v ∈ its, backV v ∈ xs := fun v hv => by rw [e1]; exact List.mem_map.mpr ⟨v, hv, rfl⟩
  have hp : ∀ v ∈ its, IsTx s.heap v (k (backV v)) := fun v hv => by
    obtain ⟨t, rfl⟩ := e2 v hv
    obtain ⟨t', y, e, ht⟩ := hx _ (back _ hv)
    cases e
    obtain ⟨_, its2, r2, o, ho, hc, n, hd⟩ := I.hok _ _ ht
    obtain ⟨u1, u2, rfl, ri, rj⟩ := vals2 r2
    obtain ⟨t1, rfl⟩ := ri
    exact ⟨t, o, t1, u2, n, rfl, ho, hc, hd⟩
  have inj' : ∀ v ∈ its, ∀ u ∈ its, k (backV v) = k (backV u) → v = u := fun v hv u hu e => by
    have i := inj _ (back _ hv) _ (back _ hu) e
    obtain ⟨t, rfl⟩ := e2 v hv
    obtain ⟨t', rfl⟩ := e2 u hu
    have i : V.ref t = V.ref t' := i
    cases i
    rfl
  refine sorted_from (PV := fun vs => vs = its) (ltT_swo fun u => k (backV u)) (fun vs e => by rw [e, ← rv.length]; exact hz) (fun Q' hq => ?_) (fun vs ev h2 h₁ a' tk ha kk => ?_) fun vs h1 h' d tk out ev s1 s2 k1 k2 hd' hn => ?_
  · have z := wpAny_collect_seq (prog := X.prog) (w := X.w) (A := X.A.in1) (E := X.xe) (Q := Q') a (.inl rfl) ho hc hd (fun h' hk => by
      have e : its.toArray.toList = its := by simp
      rw [e]
      exact hq its h' s.toks rfl hk) (by rw [List.size_toArray, ← rv.length]; exact hz)
    exact z
  · subst ev
    refine tx_sortable (s := { s with heap := h₁, toks := tk }) (by omega) (fun v hm => (hp v hm).keeps fun b o e _ => (kk b o e).2) inj' fun o e => ?_
    have e' : some o = some (seqObj "list" vs.toArray 0) := e.symm.trans ha
    cases e'
    intro c
    exact absurd (Value.type.inj c) (by decide)
  · subst ev
    have h3 : ∀ u ∈ out, ∃ a, u = Value.ref a := fun u hu => e2 u (s2.perm.mem_iff.mp hu)
    obtain ⟨n', hn⟩ := hn
    have pm : (out.map backV).Perm xs := by
      rw [e1]
      exact s2.perm.map _
    have I1 : Inv X pins σ H { s with heap := h1, toks := tk } := I.kept k1
    refine ⟨.ref d, upd H d (.lst (out.map backV)), I1.laid (t' := tk) k2 hd' ⟨?_, out, n', vals_back h3, hn⟩, rfl, q _ d pm (List.pairwise_map.mpr (s1.imp fun h => of_decide_eq_false h)) (I1.hok.fresh hd')⟩
    rw [pm.length_eq]
    exact hz
end
end S1

/-! The mathematics of spans: rows of pairs, what they cover, their one canonical form. Plain Lean. -/
namespace M1
abbrev P2 := Int × Int
def covers (ps : List P2) (x : Int) : Prop := ∃ p ∈ ps, p.1 ≤ x ∧ x < p.2
def mem (ps : List P2) (x : Int) : Bool := ps.any fun p => decide (p.1 ≤ x) && decide (x < p.2)
theorem mem_iff {ps : List P2} {x : Int} : mem ps x = true ↔ covers ps x := by
  unfold mem covers
  simp [List.any_eq_true]
theorem covers_nil {x : Int} : ¬ covers [] x := by rintro ⟨p, h, _⟩; cases h
theorem covers_cons {p : P2} {ps : List P2} {x : Int} : covers (p :: ps) x ↔ (p.1 ≤ x ∧ x < p.2) ∨ covers ps x := by
  unfold covers; simp
theorem covers_append {ps qs : List P2} {x : Int} : covers (ps ++ qs) x ↔ covers ps x ∨ covers qs x := by
  unfold covers
  constructor
  · rintro ⟨p, h, q⟩
    rcases List.mem_append.mp h with h | h
    · exact .inl ⟨p, h, q⟩
    · exact .inr ⟨p, h, q⟩
  · rintro (⟨p, h, q⟩ | ⟨p, h, q⟩)
    · exact ⟨p, List.mem_append_left _ h, q⟩
    · exact ⟨p, List.mem_append_right _ h, q⟩
theorem covers_perm {ps qs : List P2} (h : ps.Perm qs) {x : Int} : covers ps x ↔ covers qs x := by
  unfold covers
  constructor
  · rintro ⟨p, m, q⟩; exact ⟨p, h.mem_iff.mp m, q⟩
  · rintro ⟨p, m, q⟩; exact ⟨p, h.mem_iff.mpr m, q⟩
/-- ascending, apart from one another, above lo -/
def CanonFrom : Int → List P2 → Prop
  | _, [] => True
  | lo, p :: r => lo < p.1 ∧ p.1 < p.2 ∧ CanonFrom p.2 r
abbrev Canon (ps : List P2) : Prop := CanonFrom (-1) ps
/-- pairs that may be spans -/
def Ok (p : P2) : Prop := 0 ≤ p.1 ∧ p.1 < p.2 ∧ p.2 ≤ 1000000
def Oks (ps : List P2) : Prop := ∀ p ∈ ps, Ok p
theorem CanonFrom.low {lo : Int} : ∀ {ps : List P2}, CanonFrom lo ps → ∀ {x : Int}, covers ps x → lo < x
  | [], _, x, h => absurd h covers_nil
  | p :: r, ⟨h1, h2, h3⟩, x, h => by
    rcases covers_cons.mp h with ⟨a, b⟩ | h
    · omega
    · have := h3.low h
      omega
theorem canon_unique : ∀ {ps qs : List P2} {lo lo' : Int}, CanonFrom lo ps → CanonFrom lo' qs → (∀ x, covers ps x ↔ covers qs x) → ps = qs
  | [], [], _, _, _, _, _ => rfl
  | [], q :: t, _, _, _, ⟨_, h2, _⟩, h => absurd ((h q.1).mpr (covers_cons.mpr (.inl ⟨Int.le_refl _, h2⟩))) covers_nil
  | p :: r, [], _, _, ⟨_, h2, _⟩, _, h => absurd ((h p.1).mp (covers_cons.mpr (.inl ⟨Int.le_refl _, h2⟩))) covers_nil
  | (a, b) :: r, (c, d) :: t, _, _, ⟨h1, h2, h3⟩, ⟨k1, k2, k3⟩, h => by
    dsimp only at h1 h2 h3 k1 k2 k3
    have low1 : ∀ {x : Int}, covers ((a, b) :: r) x → a ≤ x := fun {x} hx => by
      rcases covers_cons.mp hx with ⟨q, _⟩ | q
      · exact q
      · have := h3.low q
        omega
    have low2 : ∀ {x : Int}, covers ((c, d) :: t) x → c ≤ x := fun {x} hx => by
      rcases covers_cons.mp hx with ⟨q, _⟩ | q
      · exact q
      · have := k3.low q
        omega
    have e1 : a = c := by
      have x1 := low2 ((h a).mp (covers_cons.mpr (.inl ⟨Int.le_refl _, h2⟩)))
      have x2 := low1 ((h c).mpr (covers_cons.mpr (.inl ⟨Int.le_refl _, k2⟩)))
      omega
    subst e1
    have e2 : b = d := by
      have x1 : ¬ covers ((a, b) :: r) b := fun q => by
        rcases covers_cons.mp q with ⟨_, q⟩ | q
        · exact absurd q (Int.lt_irrefl _)
        · exact absurd (h3.low q) (Int.lt_irrefl _)
      have x2 : ¬ covers ((a, d) :: t) d := fun q => by
        rcases covers_cons.mp q with ⟨_, q⟩ | q
        · exact absurd q (Int.lt_irrefl _)
        · exact absurd (k3.low q) (Int.lt_irrefl _)
      rcases Int.lt_trichotomy b d with q | q | q
      · exact absurd ((h b).mpr (covers_cons.mpr (.inl ⟨Int.le_of_lt h2, q⟩))) x1
      · exact q
      · exact absurd ((h d).mp (covers_cons.mpr (.inl ⟨Int.le_of_lt k2, q⟩))) x2
    subst e2
    rw [canon_unique h3 k3 fun x => ?_]
    constructor
    · intro q
      have l := h3.low q
      rcases covers_cons.mp ((h x).mp (covers_cons.mpr (.inr q))) with ⟨_, z⟩ | z
      · dsimp only at z; omega
      · exact z
    · intro q
      have l := k3.low q
      rcases covers_cons.mp ((h x).mpr (covers_cons.mpr (.inr q))) with ⟨_, z⟩ | z
      · dsimp only at z; omega
      · exact z

/-! ### united -/
/-- what has been found, the row at hand -/
structure UnS where
  found : List P2
  first : Int
  last : Int
def put (f : List P2) (a b : Int) : List P2 := if a < b then f ++ [(a, b)] else f
def unStep (s : UnS) (p : P2) : UnS := if s.last < p.1 then ⟨put s.found s.first s.last, p.1, p.2⟩ else ⟨s.found, s.first, if p.2 > s.last then p.2 else s.last⟩
def unEnd (s : UnS) : List P2 := put s.found s.first s.last
def unF (ps : List P2) : List P2 := unEnd (ps.foldl unStep ⟨[], 0, 0⟩)
def lexLe (p q : P2) : Prop := p.1 < q.1 ∨ (p.1 = q.1 ∧ p.2 ≤ q.2)
theorem canon_snoc {lo a b : Int} : ∀ {f : List P2}, CanonFrom lo f → (∀ p ∈ f, p.2 < a) → lo < a → a < b → CanonFrom lo (f ++ [(a, b)])
  | [], _, _, h, k => ⟨h, k, trivial⟩
  | p :: r, ⟨h1, h2, h3⟩, hs, _, k => ⟨h1, h2, canon_snoc h3 (fun q m => hs q (List.mem_cons_of_mem _ m)) (hs p List.mem_cons_self) k⟩
/-- the invariant: C what is covered so far -/
structure UnI (s : UnS) (ps : List P2) : Prop where
  canon : Canon s.found
  below : ∀ p ∈ s.found, p.2 < s.first
  oks : Oks s.found
  f0 : 0 ≤ s.first
  fl : s.first ≤ s.last
  l1 : s.last ≤ 1000000
  cov : ∀ x, (covers s.found x ∨ (s.first ≤ x ∧ x < s.last)) ↔ covers ps x
theorem put_ok {s : UnS} {ps : List P2} (I : UnI s ps) : Canon (put s.found s.first s.last) ∧ Oks (put s.found s.first s.last) ∧ (∀ p ∈ put s.found s.first s.last, p.2 ≤ s.last) ∧ ∀ x, covers (put s.found s.first s.last) x ↔ covers ps x := by
  obtain ⟨c, b, o, f0, fl, l1, cov⟩ := I
  unfold put
  by_cases h : s.first < s.last
  · rw [if_pos h]
    refine ⟨canon_snoc c b (by omega) h, ?_, ?_, fun x => ?_⟩
    · intro p hp
      rcases List.mem_append.mp hp with q | q
      · exact o p q
      · cases (List.mem_singleton.mp q)
        exact ⟨f0, h, l1⟩
    · intro p hp
      rcases List.mem_append.mp hp with q | q
      · have := b p q
        omega
      · cases (List.mem_singleton.mp q)
        exact Int.le_refl _
    · rw [covers_append, covers_cons, ← cov x]
      dsimp only
      constructor
      · rintro (q | q | q)
        · exact .inl q
        · exact .inr q
        · exact absurd q covers_nil
      · rintro (q | q)
        · exact .inl q
        · exact .inr (.inl q)
  · rw [if_neg h]
    refine ⟨c, o, fun p hp => by have := b p hp; omega, fun x => ?_⟩
    rw [← cov x]
    constructor
    · exact .inl
    · rintro (q | q)
      · exact q
      · omega
theorem unI_step {s : UnS} {ps : List P2} {p : P2} (I : UnI s ps) (ok : Ok p) (hp : s.first ≤ p.1) : UnI (unStep s p) (ps ++ [p]) ∧ (unStep s p).first ≤ p.1 := by
  have Z := put_ok I
  obtain ⟨c, b, o, f0, fl, l1, cov⟩ := I
  obtain ⟨k0, k1, k2⟩ := ok
  unfold unStep
  by_cases h : s.last < p.1
  · rw [if_pos h]
    obtain ⟨z1, z2, z3, z4⟩ := Z
    refine ⟨⟨z1, fun q hq => ?_, z2, k0, Int.le_of_lt k1, k2, fun x => ?_⟩, Int.le_refl _⟩
    · have := z3 q hq
      show q.2 < p.1
      omega
    · rw [covers_append, covers_cons, ← z4 x]
      constructor
      · rintro (q | q)
        · exact .inl q
        · exact .inr (.inl q)
      · rintro (q | q | q)
        · exact .inl q
        · exact .inr q
        · exact absurd q covers_nil
  · rw [if_neg h]
    refine ⟨⟨c, b, o, f0, ?_, ?_, fun x => ?_⟩, hp⟩
    · show s.first ≤ if p.2 > s.last then p.2 else s.last
      split <;> omega
    · show (if p.2 > s.last then p.2 else s.last) ≤ 1000000
      split <;> omega
    · show (covers s.found x ∨ (s.first ≤ x ∧ x < if p.2 > s.last then p.2 else s.last)) ↔ _
      rw [covers_append, covers_cons, ← cov x]
      constructor
      · rintro (q | ⟨q1, q2⟩)
        · exact .inl (.inl q)
        · by_cases e : x < s.last
          · exact .inl (.inr ⟨q1, e⟩)
          · refine .inr (.inl ⟨by omega, ?_⟩)
            split at q2 <;> omega
      · rintro ((q | ⟨q1, q2⟩) | ⟨q1, q2⟩ | q)
        · exact .inl q
        · refine .inr ⟨q1, ?_⟩
          split <;> omega
        · refine .inr ⟨by omega, ?_⟩
          split <;> omega
        · exact absurd q covers_nil
theorem unI_fold : ∀ {l : List P2} {s : UnS} {ps : List P2}, UnI s ps → Oks l → (∀ p ∈ l, s.first ≤ p.1) → l.Pairwise (fun p q => p.1 ≤ q.1) → UnI (l.foldl unStep s) (ps ++ l)
  | [], s, ps, I, _, _, _ => by rw [List.append_nil]; exact I
  | p :: l, s, ps, I, o, h, w => by
    obtain ⟨I1, h1⟩ := unI_step I (o p List.mem_cons_self) (h p List.mem_cons_self)
    have w' := List.pairwise_cons.mp w
    have := unI_fold (l := l) I1 (fun q m => o q (List.mem_cons_of_mem _ m)) (fun q m => Int.le_trans h1 (w'.1 q m)) w'.2
    rw [List.append_assoc] at this
    exact this
theorem unI_nil : UnI ⟨[], 0, 0⟩ [] := by
  refine ⟨trivial, (fun p h => nomatch h), (fun p h => nomatch h), Int.le_refl _, Int.le_refl _, (by show (0 : Int) ≤ 1000000; decide), fun x => ?_⟩
  constructor
  · rintro (q | ⟨q, r⟩)
    · exact q
    · dsimp only at q r; omega
  · exact .inl
/-- what united makes of sorted pairs -/
theorem unF_ok {l : List P2} (o : Oks l) (w : l.Pairwise (fun p q => p.1 ≤ q.1)) : Canon (unF l) ∧ Oks (unF l) ∧ ∀ x, covers (unF l) x ↔ covers l x := by
  have I := unI_fold unI_nil o (fun p m => (o p m).1) w
  rw [List.nil_append] at I
  obtain ⟨a, b, _, d⟩ := put_ok I
  exact ⟨a, b, d⟩

/-! ### shared, rest_of -/
def meet (p q : P2) : P2 := (if q.1 > p.1 then q.1 else p.1, if q.2 < p.2 then q.2 else p.2)
def sharedF (a b : List P2) : List P2 := (a.flatMap fun p => b.map (meet p)).filter fun p => decide (p.1 < p.2)
theorem covers_shared {a b : List P2} {x : Int} : covers (sharedF a b) x ↔ covers a x ∧ covers b x := by
  unfold covers sharedF
  constructor
  · rintro ⟨r, hr, h1, h2⟩
    obtain ⟨hr, _⟩ := List.mem_filter.mp hr
    obtain ⟨p, hp, hr⟩ := List.mem_flatMap.mp hr
    obtain ⟨q, hq, rfl⟩ := List.mem_map.mp hr
    unfold meet at h1 h2
    dsimp only at h1 h2
    refine ⟨⟨p, hp, ?_⟩, ⟨q, hq, ?_⟩⟩ <;> (split at h1 <;> split at h2 <;> omega)
  · rintro ⟨⟨p, hp, h1, h2⟩, ⟨q, hq, k1, k2⟩⟩
    have e1 : (meet p q).1 ≤ x := by unfold meet; dsimp only; split <;> omega
    have e2 : x < (meet p q).2 := by unfold meet; dsimp only; split <;> omega
    refine ⟨meet p q, List.mem_filter.mpr ⟨List.mem_flatMap.mpr ⟨p, hp, List.mem_map.mpr ⟨q, hq, rfl⟩⟩, decide_eq_true (by omega)⟩, e1, e2⟩
theorem oks_shared {a b : List P2} (ha : Oks a) (hb : Oks b) : Oks (sharedF a b) := by
  intro r hr
  obtain ⟨hr, h⟩ := List.mem_filter.mp hr
  obtain ⟨p, hp, hr⟩ := List.mem_flatMap.mp hr
  obtain ⟨q, hq, rfl⟩ := List.mem_map.mp hr
  obtain ⟨a1, a2, a3⟩ := ha p hp
  obtain ⟨b1, b2, b3⟩ := hb q hq
  have h' := of_decide_eq_true h
  refine ⟨?_, h', ?_⟩ <;> (unfold meet; dsimp only; split <;> omega)
def restF (ps : List P2) : List P2 := (((0 : Int) :: ps.map (·.2)).zip (ps.map (·.1) ++ [1000000])).filter fun p => decide (p.1 < p.2)
def gaps : Int → List P2 → List P2
  | lo, [] => [(lo, 1000000)]
  | lo, p :: r => (lo, p.1) :: gaps p.2 r
theorem zip_gaps : ∀ (ps : List P2) (lo : Int), (lo :: ps.map (·.2)).zip (ps.map (·.1) ++ [1000000]) = gaps lo ps
  | [], lo => rfl
  | p :: r, lo => by
    show (lo, p.1) :: ((p.2 :: r.map (·.2)).zip (r.map (·.1) ++ [1000000])) = _
    rw [zip_gaps r p.2]
    rfl
theorem covers_filter {ps : List P2} {x : Int} : covers (ps.filter fun p => decide (p.1 < p.2)) x ↔ covers ps x := by
  unfold covers
  constructor
  · rintro ⟨p, h, q⟩; exact ⟨p, (List.mem_filter.mp h).1, q⟩
  · rintro ⟨p, h, q⟩; exact ⟨p, List.mem_filter.mpr ⟨h, decide_eq_true (by omega)⟩, q⟩
theorem covers_gaps : ∀ {ps : List P2} {lo lo' : Int}, CanonFrom lo' ps → lo' ≤ lo → (∀ p ∈ ps, p.2 ≤ 1000000) → (∀ p ∈ ps, lo ≤ p.1) → ∀ x, covers (gaps lo ps) x ↔ (lo ≤ x ∧ x < 1000000 ∧ ¬ covers ps x)
  | [], lo, lo', _, _, _, _, x => by
    unfold gaps
    rw [covers_cons]
    constructor
    · rintro (⟨a, b⟩ | q)
      · exact ⟨a, b, covers_nil⟩
      · exact absurd q covers_nil
    · rintro ⟨a, b, _⟩
      exact .inl ⟨a, b⟩
  | p :: r, lo, lo', ⟨h1, h2, h3⟩, hl, hm, ho, x => by
    have hp := hm p List.mem_cons_self
    have hlo := ho p List.mem_cons_self
    have low : ∀ q ∈ r, p.2 ≤ q.1 := by
      intro q hq
      have hc : ∀ {f : List P2} {l : Int}, CanonFrom l f → ∀ q ∈ f, l < q.1 := by
        intro f
        induction f with
        | nil => intro l _ q h; cases h
        | cons a t ih =>
          intro l ⟨g1, g2, g3⟩ q h
          rcases List.mem_cons.mp h with e | e
          · rw [e]; exact g1
          · have := ih g3 q e
            omega
      exact Int.le_of_lt (hc h3 q hq)
    have ih := covers_gaps h3 (Int.le_refl p.2) (fun q m => hm q (List.mem_cons_of_mem _ m)) low x
    show covers ((lo, p.1) :: gaps p.2 r) x ↔ _
    rw [covers_cons, ih, covers_cons]
    dsimp only
    constructor
    · rintro (⟨a, b⟩ | ⟨a, b, c⟩)
      · refine ⟨a, by omega, ?_⟩
        rintro (q | q)
        · omega
        · have := h3.low q
          omega
      · refine ⟨by omega, b, ?_⟩
        rintro (q | q)
        · omega
        · exact c q
    · rintro ⟨a, b, c⟩
      by_cases e : x < p.1
      · exact .inl ⟨a, e⟩
      · refine .inr ⟨?_, b, fun q => c (.inr q)⟩
        rcases Int.lt_or_le x p.2 with q | q
        · exact absurd (.inl ⟨by omega, q⟩) c
        · exact q
theorem covers_rest {ps : List P2} (c : Canon ps) (o : Oks ps) (x : Int) : covers (restF ps) x ↔ (0 ≤ x ∧ x < 1000000 ∧ ¬ covers ps x) := by
  unfold restF
  rw [zip_gaps, covers_filter]
  exact covers_gaps c (by omega) (fun p m => (o p m).2.2) (fun p m => (o p m).1) x
theorem gaps_bounds : ∀ {ps : List P2} {lo : Int}, Oks ps → 0 ≤ lo → ∀ p ∈ gaps lo ps, 0 ≤ p.1 ∧ p.2 ≤ 1000000
  | [], lo, _, h, p, hp => by
    unfold gaps at hp
    cases (List.mem_singleton.mp hp)
    exact ⟨h, Int.le_refl _⟩
  | q :: r, lo, o, h, p, hp => by
    obtain ⟨a, b, c⟩ := o q List.mem_cons_self
    rcases List.mem_cons.mp (show p ∈ (lo, q.1) :: gaps q.2 r from hp) with e | e
    · rw [e]; exact ⟨h, by show q.1 ≤ 1000000; omega⟩
    · exact gaps_bounds (fun s m => o s (List.mem_cons_of_mem _ m)) (by omega) p e
theorem oks_rest {ps : List P2} (o : Oks ps) : Oks (restF ps) := by
  intro p hp
  unfold restF at hp
  rw [zip_gaps] at hp
  obtain ⟨h1, h2⟩ := List.mem_filter.mp hp
  obtain ⟨a, b⟩ := gaps_bounds o (Int.le_refl 0) p h1
  exact ⟨a, of_decide_eq_true h2, b⟩

/-! ### how many -/
def total (ps : List P2) : Int := (ps.map fun p => p.2 - p.1).sum
def mostN : Nat := 1000000
theorem mostN_eq : (mostN : Int) = 1000000 := rfl
def cnt (ps : List P2) : Nat := (List.range mostN).countP fun n : Nat => mem ps (n : Int)
theorem countP_or_and {α : Type} (p q : α → Bool) : ∀ l : List α, l.countP (fun x => p x || q x) + l.countP (fun x => p x && q x) = l.countP p + l.countP q
  | [] => rfl
  | a :: l => by
    have ih := countP_or_and p q l
    simp only [List.countP_cons]
    cases p a <;> cases q a <;> simp <;> omega
theorem countP_range_iv : ∀ (N : Nat) (a b : Int), 0 ≤ a → a ≤ b → b ≤ N → (((List.range N).countP fun n : Nat => decide (a ≤ (n : Int)) && decide ((n : Int) < b) : Nat) : Int) = b - a
  | 0, a, b, h1, h2, h3 => by simp at h3 ⊢; omega
  | N + 1, a, b, h1, h2, h3 => by
    rw [List.range_succ, List.countP_append, List.countP_singleton]
    by_cases hb : b ≤ N
    · have ih := countP_range_iv N a b h1 h2 hb
      have e : (decide (a ≤ (N : Int)) && decide ((N : Int) < b)) = false := by
        rw [decide_eq_false (show ¬ (N : Int) < b by omega), Bool.and_false]
      rw [e]
      simp only [Bool.false_eq_true, if_false, Nat.add_zero]
      exact ih
    · have eb : b = N + 1 := by omega
      by_cases ha : a ≤ N
      · have ih := countP_range_iv N a N h1 ha (Int.le_refl _)
        have c : (List.range N).countP (fun n : Nat => decide (a ≤ (n : Int)) && decide ((n : Int) < b)) = (List.range N).countP fun n : Nat => decide (a ≤ (n : Int)) && decide ((n : Int) < (N : Int)) := by
          apply List.countP_congr
          intro n hn
          have hn := List.mem_range.mp hn
          rw [decide_eq_true (show (n : Int) < b by omega), decide_eq_true (show (n : Int) < (N : Int) by omega)]
        rw [c]
        have e : (decide (a ≤ (N : Int)) && decide ((N : Int) < b)) = true := by
          rw [decide_eq_true (show (N : Int) < b by omega), decide_eq_true ha, Bool.and_true]
        rw [e]
        simp only [if_true]
        omega
      · have ea : a = b := by omega
        have c : (List.range N).countP (fun n : Nat => decide (a ≤ (n : Int)) && decide ((n : Int) < b)) = 0 := by
          rw [List.countP_eq_zero]
          intro n hn
          rw [decide_eq_false (show ¬ a ≤ (n : Int) by have := List.mem_range.mp hn; omega), Bool.false_and]
          simp
        rw [c]
        have e : (decide (a ≤ (N : Int)) && decide ((N : Int) < b)) = false := by
          rw [decide_eq_false (show ¬ a ≤ (N : Int) by omega), Bool.false_and]
        rw [e]
        simp
        omega
theorem total_cnt_from : ∀ {ps : List P2} {lo : Int}, CanonFrom lo ps → Oks ps → total ps = (cnt ps : Int)
  | [], _, _, _ => by
    unfold total cnt mem
    rw [show (List.range mostN).countP (fun n : Nat => ([] : List P2).any fun p => decide (p.1 ≤ (n : Int)) && decide ((n : Int) < p.2)) = 0 from by
      rw [List.countP_eq_zero]
      intro n _
      simp]
    rfl
  | p :: r, lo, ⟨h1, h2, h3⟩, o => by
    obtain ⟨o1, o2, o3⟩ := o p List.mem_cons_self
    have ih := total_cnt_from h3 fun q m => o q (List.mem_cons_of_mem _ m)
    have iv := countP_range_iv mostN p.1 p.2 o1 (Int.le_of_lt o2) (by rw [mostN_eq]; exact o3)
    have oa := countP_or_and (fun n : Nat => decide (p.1 ≤ (n : Int)) && decide ((n : Int) < p.2)) (fun n : Nat => mem r (n : Int)) (List.range mostN)
    have z : (List.range mostN).countP (fun n : Nat => (decide (p.1 ≤ (n : Int)) && decide ((n : Int) < p.2)) && mem r (n : Int)) = 0 := by
      rw [List.countP_eq_zero]
      intro n _ hn
      rw [Bool.and_eq_true, Bool.and_eq_true] at hn
      have q := h3.low (mem_iff.mp hn.2)
      have := of_decide_eq_true hn.1.2
      omega
    have e : cnt (p :: r) = (List.range mostN).countP (fun n : Nat => (decide (p.1 ≤ (n : Int)) && decide ((n : Int) < p.2)) || mem r (n : Int)) := rfl
    have t : total (p :: r) = (p.2 - p.1) + total r := by unfold total; rw [List.map_cons, List.sum_cons]
    unfold cnt at ih
    rw [e, t]
    omega
theorem total_cnt {ps : List P2} (c : Canon ps) (o : Oks ps) : total ps = (cnt ps : Int) := total_cnt_from c o
theorem cnt_of {ps qs : List P2} (h : ∀ x, covers ps x ↔ covers qs x) : cnt ps = cnt qs := by
  unfold cnt
  apply List.countP_congr
  intro n _
  rw [mem_iff, mem_iff]
  exact h _
theorem cnt_or_and {a b u i : List P2} (hu : ∀ x, covers u x ↔ covers a x ∨ covers b x) (hi : ∀ x, covers i x ↔ covers a x ∧ covers b x) : cnt u + cnt i = cnt a + cnt b := by
  have oa := countP_or_and (fun n : Nat => mem a (n : Int)) (fun n : Nat => mem b (n : Int)) (List.range mostN)
  have e1 : cnt u = (List.range mostN).countP (fun n : Nat => mem a (n : Int) || mem b (n : Int)) := by
    unfold cnt
    apply List.countP_congr
    intro n _
    rw [mem_iff, Bool.or_eq_true, mem_iff, mem_iff]
    exact hu _
  have e2 : cnt i = (List.range mostN).countP (fun n : Nat => mem a (n : Int) && mem b (n : Int)) := by
    unfold cnt
    apply List.countP_congr
    intro n _
    rw [mem_iff, Bool.and_eq_true, mem_iff, mem_iff]
    exact hi _
  rw [e1, e2]
  exact oa
theorem total_nonneg {ps : List P2} (o : Oks ps) : 0 ≤ total ps := by
  unfold total
  induction ps with
  | nil => exact Int.le_refl _
  | cons p r ih =>
    rw [List.map_cons, List.sum_cons]
    have := ih fun q m => o q (List.mem_cons_of_mem _ m)
    obtain ⟨_, h, _⟩ := o p List.mem_cons_self
    omega
theorem cnt_le (ps : List P2) : cnt ps ≤ mostN := by
  unfold cnt
  have := List.countP_le_length (p := fun n : Nat => mem ps (n : Int)) (l := List.range mostN)
  rwa [List.length_range] at this

/-! ### the law's couples of ascending positions -/
def cpStep (f : List P2) (x : Int) : List P2 := match f.getLast? with
  | some p => if p.2 = x then f.dropLast ++ [(p.1, x + 1)] else f ++ [(x, x + 1)]
  | none => [(x, x + 1)]
def cpF (ks : List Int) : List P2 := ks.foldl cpStep []
theorem cpStep_nil (x : Int) : cpStep [] x = [(x, x + 1)] := rfl
theorem cpStep_snoc (g : List P2) (p : P2) (x : Int) : cpStep (g ++ [p]) x = if p.2 = x then g ++ [(p.1, x + 1)] else g ++ [p] ++ [(x, x + 1)] := by
  unfold cpStep
  rw [List.getLast?_concat]
  show (if p.2 = x then (g ++ [p]).dropLast ++ [(p.1, x + 1)] else g ++ [p] ++ [(x, x + 1)]) = _
  rw [List.dropLast_concat]
theorem canon_ext {lo a b b' : Int} (hb : b ≤ b') : ∀ {g : List P2}, CanonFrom lo (g ++ [(a, b)]) → CanonFrom lo (g ++ [(a, b')])
  | [], ⟨h1, h2, _⟩ => ⟨h1, Int.lt_of_lt_of_le h2 hb, trivial⟩
  | p :: r, ⟨h1, h2, h3⟩ => ⟨h1, h2, canon_ext hb h3⟩
theorem canon_tops {lo : Int} : ∀ {g : List P2} {p : P2}, CanonFrom lo (g ++ [p]) → ∀ q ∈ g, q.2 < p.1
  | [], _, _, q, h => nomatch h
  | a :: r, p, ⟨h1, h2, h3⟩, q, h => by
    rcases List.mem_cons.mp h with e | e
    · rw [e]
      have hc : ∀ {f : List P2} {l : Int}, CanonFrom l f → ∀ q ∈ f, l < q.1 := by
        intro f
        induction f with
        | nil => intro l _ q h; cases h
        | cons a t ih =>
          intro l ⟨g1, g2, g3⟩ q h
          rcases List.mem_cons.mp h with e | e
          · rw [e]; exact g1
          · have := ih g3 q e
            omega
      exact hc h3 p (List.mem_append_right _ (List.mem_singleton.mpr rfl))
    · exact canon_tops h3 q e
structure CpI (f : List P2) (ks : List Int) : Prop where
  canon : Canon f
  oks : Oks f
  cov : ∀ x, covers f x ↔ x ∈ ks
theorem cpI_nil : CpI [] [] := ⟨trivial, (fun p h => nomatch h), fun x => ⟨fun h => absurd h covers_nil, fun h => nomatch h⟩⟩
theorem cpI_step {f : List P2} {ks : List Int} {x : Int} (I : CpI f ks) (hx : ∀ k ∈ ks, k < x) (h0 : 0 ≤ x) (h1 : x < 1000000) : CpI (cpStep f x) (ks ++ [x]) := by
  obtain ⟨c, o, cov⟩ := I
  have tops : ∀ p ∈ f, p.2 ≤ x := fun p hp => by
    obtain ⟨a, b, d⟩ := o p hp
    have m : covers f (p.2 - 1) := ⟨p, hp, by omega, by omega⟩
    have := hx _ ((cov _).mp m)
    omega
  rcases List.eq_nil_or_concat f with e | ⟨g, p, e⟩
  · subst e
    rw [cpStep_nil]
    refine ⟨⟨by show (-1 : Int) < x; omega, by show x < x + 1; omega, trivial⟩, fun p hp => ?_, fun y => ?_⟩
    · cases (List.mem_singleton.mp hp)
      exact ⟨h0, by show x < x + 1; omega, by show x + 1 ≤ 1000000; omega⟩
    · rw [covers_cons, List.mem_append, List.mem_singleton, ← cov y]
      dsimp only
      constructor
      · rintro (⟨a, b⟩ | q)
        · exact .inr (by omega)
        · exact .inl q
      · rintro (q | q)
        · exact .inr q
        · exact .inl ⟨by omega, by omega⟩
  · have e' : f = g ++ [p] := by rw [e, List.concat_eq_append]
    subst e'
    rw [cpStep_snoc]
    have hp := tops p (List.mem_append_right _ (List.mem_singleton.mpr rfl))
    obtain ⟨p1, p2, p3⟩ := o p (List.mem_append_right _ (List.mem_singleton.mpr rfl))
    by_cases h : p.2 = x
    · rw [if_pos h]
      refine ⟨canon_ext (b := p.2) (by omega) c, fun q hq => ?_, fun y => ?_⟩
      · rcases List.mem_append.mp hq with q' | q'
        · exact o q (List.mem_append_left _ q')
        · cases (List.mem_singleton.mp q')
          exact ⟨p1, by show p.1 < x + 1; omega, by show x + 1 ≤ 1000000; omega⟩
      · have hc := cov y
        rw [covers_append, covers_cons] at hc
        rw [covers_append, covers_cons, List.mem_append, List.mem_singleton, ← hc]
        dsimp only
        constructor
        · rintro (q | ⟨a, b⟩ | q)
          · exact .inl (.inl q)
          · by_cases z : y < p.2
            · exact .inl (.inr (.inl ⟨a, z⟩))
            · exact .inr (by omega)
          · exact absurd q covers_nil
        · rintro ((q | ⟨a, b⟩ | q) | q)
          · exact .inl q
          · exact .inr (.inl ⟨a, by omega⟩)
          · exact absurd q covers_nil
          · exact .inr (.inl ⟨by omega, by omega⟩)
    · rw [if_neg h]
      refine ⟨canon_snoc c (fun q hq => ?_) (by omega) (by omega), fun q hq => ?_, fun y => ?_⟩
      · have := tops q hq
        rcases List.mem_append.mp hq with q' | q'
        · have := canon_tops c q q'
          omega
        · cases (List.mem_singleton.mp q')
          omega
      · rcases List.mem_append.mp hq with q' | q'
        · exact o q q'
        · cases (List.mem_singleton.mp q')
          exact ⟨h0, by show x < x + 1; omega, by show x + 1 ≤ 1000000; omega⟩
      · rw [covers_append, covers_cons, List.mem_append, List.mem_singleton, ← cov y]
        dsimp only
        constructor
        · rintro (q | ⟨a, b⟩ | q)
          · exact .inl q
          · exact .inr (by omega)
          · exact absurd q covers_nil
        · rintro (q | q)
          · exact .inl q
          · exact .inr (.inl ⟨by omega, by omega⟩)
theorem cpI_fold : ∀ {l : List Int} {f : List P2} {ks : List Int}, CpI f ks → (∀ k ∈ ks, ∀ x ∈ l, k < x) → l.Pairwise (· < ·) → (∀ x ∈ l, 0 ≤ x ∧ x < 1000000) → CpI (l.foldl cpStep f) (ks ++ l)
  | [], f, ks, I, _, _, _ => by rw [List.append_nil]; exact I
  | x :: l, f, ks, I, h, w, o => by
    have w' := List.pairwise_cons.mp w
    have I1 := cpI_step I (fun k hk => h k hk x List.mem_cons_self) (o x List.mem_cons_self).1 (o x List.mem_cons_self).2
    have := cpI_fold (l := l) I1 (fun k hk y hy => by
      rcases List.mem_append.mp hk with q | q
      · exact h k q y (List.mem_cons_of_mem _ hy)
      · rw [List.mem_singleton.mp q]
        exact w'.1 y hy) w'.2 fun y hy => o y (List.mem_cons_of_mem _ hy)
    rw [List.append_assoc] at this
    exact this
theorem cpF_ok {ks : List Int} (w : ks.Pairwise (· < ·)) (o : ∀ x ∈ ks, 0 ≤ x ∧ x < 1000000) : Canon (cpF ks) ∧ Oks (cpF ks) ∧ ∀ x, covers (cpF ks) x ↔ x ∈ ks := by
  have I := cpI_fold cpI_nil (fun k h => nomatch h) w o
  rw [List.nil_append] at I
  exact ⟨I.canon, I.oks, I.cov⟩
theorem strict_of {ks : List Int} (w : ks.Pairwise (· ≤ ·)) (nd : ks.Nodup) : ks.Pairwise (· < ·) := by
  have h := List.Pairwise.and w nd
  exact h.imp fun {a b} ⟨h1, h2⟩ => by omega
theorem len_total : ∀ {ps : List P2}, Oks ps → (ps.length : Int) ≤ total ps
  | [], _ => by show (0 : Int) ≤ 0; decide
  | p :: r, o => by
    have h1 := len_total fun q m => o q (List.mem_cons_of_mem p m)
    obtain ⟨_, h2, _⟩ := o p List.mem_cons_self
    show ((r.length + 1 : Nat) : Int) ≤ ((p :: r).map fun p => p.2 - p.1).sum
    rw [List.map_cons, List.sum_cons]
    have h3 : total r = (r.map fun p => p.2 - p.1).sum := rfl
    omega
theorem len_cnt {ps : List P2} (c : Canon ps) (o : Oks ps) : ps.length ≤ cnt ps := by
  have h1 := len_total o
  rw [total_cnt c o] at h1
  omega
theorem len_of {ps : List P2} (c : Canon ps) (o : Oks ps) : ps.length ≤ mostN := Nat.le_trans (len_cnt c o) (cnt_le ps)
theorem countP_le_of {α : Type} {p q : α → Bool} (h : ∀ a, p a = true → q a = true) : ∀ l : List α, l.countP p ≤ l.countP q
  | [] => by simp
  | a :: l => by
    have ih := countP_le_of h l
    rw [List.countP_cons, List.countP_cons]
    by_cases e : p a = true
    · rw [if_pos e, if_pos (h a e)]
      omega
    · rw [if_neg e]
      split <;> omega
theorem countP_or_le {α : Type} (p q : α → Bool) (l : List α) : l.countP (fun x => p x || q x) ≤ l.countP p + l.countP q := by
  have := countP_or_and p q l
  omega
theorem countP_one (N : Nat) (k : Int) : (List.range N).countP (fun n : Nat => decide ((n : Int) = k)) ≤ 1 := by
  by_cases h : 0 ≤ k ∧ k < (N : Int)
  · have e := countP_range_iv N k (k + 1) h.1 (by omega) (by omega)
    have e2 : ((List.range N).countP fun n : Nat => decide ((n : Int) = k)) ≤ (List.range N).countP fun n : Nat => decide (k ≤ (n : Int)) && decide ((n : Int) < k + 1) :=
      countP_le_of (fun n hn => by
        have hn := of_decide_eq_true hn
        rw [Bool.and_eq_true]
        exact ⟨decide_eq_true (by omega), decide_eq_true (by omega)⟩) _
    omega
  · have e : (List.range N).countP (fun n : Nat => decide ((n : Int) = k)) = 0 := by
      rw [List.countP_eq_zero]
      intro n hn hc
      have hn := List.mem_range.mp hn
      have hc := of_decide_eq_true hc
      exact h ⟨by omega, by omega⟩
    omega
theorem countP_keys (N : Nat) : ∀ ks : List Int, (List.range N).countP (fun n : Nat => decide ((n : Int) ∈ ks)) ≤ ks.length
  | [] => by
    rw [show (List.range N).countP (fun n : Nat => decide ((n : Int) ∈ ([] : List Int))) = 0 from by
      rw [List.countP_eq_zero]
      intro n _ hc
      exact absurd (of_decide_eq_true hc) List.not_mem_nil]
    exact Nat.zero_le _
  | k :: r => by
    have ih := countP_keys N r
    have e1 := countP_one N k
    have e2 := countP_or_le (fun n : Nat => decide ((n : Int) = k)) (fun n : Nat => decide ((n : Int) ∈ r)) (List.range N)
    have e3 : (List.range N).countP (fun n : Nat => decide ((n : Int) ∈ k :: r)) ≤ (List.range N).countP fun n : Nat => decide ((n : Int) = k) || decide ((n : Int) ∈ r) :=
      countP_le_of (fun n hn => by
        rw [Bool.or_eq_true]
        rcases List.mem_cons.mp (of_decide_eq_true hn) with e | e
        · exact .inl (decide_eq_true e)
        · exact .inr (decide_eq_true e)) _
    rw [List.length_cons]
    omega
theorem cnt_keys {ps : List P2} {ks : List Int} (h : ∀ x, covers ps x → x ∈ ks) : cnt ps ≤ ks.length :=
  Nat.le_trans (countP_le_of (fun n hn => decide_eq_true (h _ (mem_iff.mp hn))) _) (countP_keys mostN ks)
theorem cnt_mono {ps qs : List P2} (h : ∀ x, covers ps x → covers qs x) : cnt ps ≤ cnt qs :=
  countP_le_of (fun n hn => mem_iff.mpr (h _ (mem_iff.mp hn))) _
theorem cnt_nil : cnt [] = 0 := by
  unfold cnt
  rw [List.countP_eq_zero]
  intro n _ hc
  exact absurd (mem_iff.mp hc) covers_nil
theorem cnt_split {a s i : List P2} (ha : ∀ x, covers a x ↔ covers s x ∨ covers i x) (hd : ∀ x, ¬ (covers s x ∧ covers i x)) : cnt a = cnt s + cnt i := by
  have := cnt_or_and (a := s) (b := i) (u := a) (i := []) ha (fun x => ⟨fun z => absurd z covers_nil, fun z => absurd z (hd x)⟩)
  rw [cnt_nil] at this
  omega
theorem cnt_or_le {a b u : List P2} (h : ∀ x, covers u x ↔ covers a x ∨ covers b x) : cnt u ≤ cnt a + cnt b := by
  have := cnt_or_and (a := a) (b := b) (u := u) (i := sharedF a b) h fun x => covers_shared
  omega
end M1

namespace S1
open PySem PySem.Spec PyProof.Rows L2 StX
/-! ### a def as it may be called: no exception leaves it -/
structure Cal (P : Program) (w : World) (K : PySem.W.Frag) (mg : Str → Option Value) (base : Heap) (k : Nat) (x : Str) (ps : List Str) (sp : Sp) (f : Addr) (fd : FuncData) : Prop where
  ok : FnOk P w K mg base CX0 k f fd ps sp
  gm : mg x = some (.ref f)
  kp : PySem.W.keepIn K (.ref f) = true
  b : Binds K fd ps []
section
variable {X : Cx} {k m : Nat} {f : Addr} {fd : FuncData} {ps : List Str} {sp : Sp} {x : Str} {p pos : Pos} {e : Expr} {es : List Expr} {t : TA}
theorem pe_c (D : Cal X.prog X.w X.K X.mg X.base k x ps sp f fd) (hr : Room m X.A) (hg : Gl X x) (ha : PA X (e :: es) t) (hk : k ≤ m := by decide) (hdb : (x == ("__debug__" : Str)) = false := by decide)
    (he : starEach (e :: es) X.env = (false, eval e X.env) :: starEach es X.env := by rfl) (hpl : (backTo pos (starEach es X.env)).any (·.1) = false := by rfl) : PE X (.Call (.Name x p) (e :: es) [] pos) (tCall sp [] E0 t) :=
  pe_call D.ok (hr.mono hk) hg D.gm D.kp D.b .nil pass0 ha hdb he hpl
theorem pe_c0 (D : Cal X.prog X.w X.K X.mg X.base k x ps sp f fd) (hr : Room m X.A) (hg : Gl X x) (hk : k ≤ m := by decide) (hdb : (x == ("__debug__" : Str)) = false := by decide) : PE X (.Call (.Name x p) [] [] pos) (tCall sp [] E0 tNil) :=
  pe_call0 D.ok (hr.mono hk) hg D.gm D.kp D.b .nil pass0 hdb
/-- a module's whole number -/
theorem pe_gi {i : Int} (hg : Gl X x) (h : ∃ t, X.mg x = some (.int i t)) (hd : (x == ("__debug__" : Str)) = false := by decide) : PE X (.Name x pos) (tC (.int i)) := by
  obtain ⟨t, h⟩ := h
  exact pe_glob hg h ⟨t, rfl⟩ hd
end
/-! ### comprehensions and loops over anything that is walked n times -/
theorem yesT {σ : L2.St} {H : Hp} {F G : Hp → Prop} (h : F H) : tYes σ H fun b H' => if b = true then F H' else G H' := by
  show if true = true then F H else G H
  rw [if_pos rfl]
  exact h
theorem lc_it {J : It} {n : Nat} {B : V → Hp → (Hp → Prop) → Prop} {H1 : Hp} {Qd : Hp → Prop} (Pv : Nat → Hp → Prop) (h0 : Pv 0 H1) (hgo : ∀ i H, i < n → Pv i H → J.go i H) (hst : ∀ H, Pv n H → J.stop n H)
    (hs : ∀ i H x H', i < n → Pv i H → J.yld i H x H' → B x H' (Pv (i + 1))) (hd : ∀ H, Pv n H → Qd H) :
    ∃ W : Nat → Nat → Hp → Prop, (∃ m, W 0 m H1) ∧ ∀ i m H, W i m H →
      (J.stop i H ∧ Qd H) ∨ (J.go i H ∧ ∃ Nx : Hp → Prop, (∀ H', Nx H' → ∃ m', m' < m ∧ W (i + 1) m' H') ∧ ∀ x H', J.yld i H x H' → B x H' Nx) := by
  refine ⟨fun i m H => m = n - i ∧ i ≤ n ∧ Pv i H, ⟨n, by simp, Nat.zero_le _, h0⟩, ?_⟩
  rintro i m H ⟨rfl, hi, p⟩
  by_cases hlt : i < n
  · exact .inr ⟨hgo i H hlt p, Pv (i + 1), fun H' p' => ⟨n - (i + 1), by omega, rfl, hlt, p'⟩, fun x H' y => hs i H x H' hlt p y⟩
  · have e : i = n := by omega
    subst e
    exact .inl ⟨hst H p, hd H p⟩
theorem for_it {J : It} {n : Nat} {g : TG} {tb : TS} {D : Ends} {σ : L2.St} {H : Hp} (Pv : Nat → L2.St → Hp → Prop) (h0 : Pv 0 σ H) (hgo : ∀ i σ H, i < n → Pv i σ H → J.go i H) (hst : ∀ σ H, Pv n σ H → J.stop n H)
    (hs : ∀ i σ H x H', i < n → Pv i σ H → J.yld i H x H' → g x σ H' fun σ2 H2 => tb { D with nx := Pv (i + 1), ct := Pv (i + 1), bk := D.nx } σ2 H2) (hd : ∀ σ H, Pv n σ H → D.nx σ H) :
    ∃ W : Nat → Nat → L2.St → Hp → Prop, (∃ m, W 0 m σ H) ∧ ∀ i m σ H, W i m σ H →
      (J.stop i H ∧ D.nx σ H) ∨ (J.go i H ∧ ∃ N : L2.St → Hp → Prop, (∀ σ' H', N σ' H' → ∃ m', m' < m ∧ W (i + 1) m' σ' H') ∧ ∀ v H', J.yld i H v H' → g v σ H' fun σ2 H2 => tb { D with nx := N, ct := N, bk := D.nx } σ2 H2) := by
  refine ⟨fun i m σ H => m = n - i ∧ i ≤ n ∧ Pv i σ H, ⟨n, by simp, Nat.zero_le _, h0⟩, ?_⟩
  rintro i m σ H ⟨rfl, hi, p⟩
  by_cases hlt : i < n
  · exact .inr ⟨hgo i σ H hlt p, Pv (i + 1), fun σ' H' p' => ⟨n - (i + 1), by omega, rfl, hlt, p'⟩, fun x H' y => hs i σ H x H' hlt p y⟩
  · have e : i = n := by omega
    subst e
    exact .inl ⟨hst σ H p, hd σ H p⟩
/-- a list or a tuple that stands -/
def Seqs (K : PySem.W.Frag) (H : Hp) (a : Addr) (xs : List V) : Prop := SqL K H a xs ∨ SqT K H a xs
theorem seq_go {K : PySem.W.Frag} {H0 H : Hp} {a : Addr} {xs : List V} {R : It → Hp → Prop} (h : Seqs K H0 a xs) (hs : Same H0 H)
    (k : ∀ (J : It), (∀ H i, Same H0 H → i < xs.length → J.go i H) → (∀ H, Same H0 H → J.stop xs.length H) → (∀ H i x H', Same H0 H → J.yld i H x H' → H' = H ∧ xs[i]? = some x) → R J H) :
    (((∃ xs, SqL K H a xs) ∧ R (Itl K a) H) ∨ ((∃ xs, SqT K H a xs) ∧ R (Itt K a) H)) := by
  rcases h with h | h
  · have m : ∀ {H}, Same H0 H → SqL K H a xs := fun s => s.seq h
    exact .inl ⟨⟨xs, m hs⟩, k _ (fun H i s hi => ⟨xs, xs[i], m s, List.getElem?_eq_getElem hi⟩) (fun H s => ⟨xs, m s, Nat.le_refl _⟩) fun H i x H' s y => ⟨y.1, y.2 xs (m s)⟩⟩
  · have m : ∀ {H}, Same H0 H → SqT K H a xs := fun s => SqT.ext h s
    exact .inr ⟨⟨xs, m hs⟩, k _ (fun H i s hi => ⟨xs, xs[i], m s, List.getElem?_eq_getElem hi⟩) (fun H s => ⟨xs, m s, Nat.le_refl _⟩) fun H i x H' s y => ⟨y.1, y.2 xs (m s)⟩⟩
theorem iSeq_var {K : PySem.W.Frag} {σ : L2.St} {i : Nat} {H0 H : Hp} {a : Addr} {xs : List V} {R : It → Hp → Prop} (hσ : σ[i]? = some (some (.ref a))) (h : Seqs K H0 a xs) (hs : Same H0 H)
    (k : ∀ (J : It), (∀ H i, Same H0 H → i < xs.length → J.go i H) → (∀ H, Same H0 H → J.stop xs.length H) → (∀ H i x H', Same H0 H → J.yld i H x H' → H' = H ∧ xs[i]? = some x) → R J H) : iSeq K (tVar i) σ H R :=
  ⟨.ref a, hσ, a, rfl, seq_go h hs k⟩
end S1

namespace S1
open PySem PySem.Spec PyProof.Rows L2 StX M1
/-! ### rows of pairs in the heap -/
def PairV (H : Hp) (x : V) (p : P2) : Prop := ∃ t, x = .ref t ∧ H t = some (.tup [.int p.1, .int p.2])
abbrev PairsV (H : Hp) : List V → List P2 → Prop := Paired (PairV H)
def TupP (H : Hp) (a : Addr) (ps : List P2) : Prop := ∃ xs, H a = some (.tup xs) ∧ PairsV H xs ps
def LstP (H : Hp) (a : Addr) (ps : List P2) : Prop := ∃ xs, H a = some (.lst xs) ∧ PairsV H xs ps
theorem Paired.imp2 {α β : Type} {F G : α → β → Prop} (h : ∀ a b, F a b → G a b) : ∀ {l1 : List α} {l2 : List β}, Paired F l1 l2 → Paired G l1 l2
  | _, _, .nil => .nil
  | _, _, .cons r t => .cons (h _ _ r) (Paired.imp2 h t)
/-- tuples stay -/
def TupsStay (H H' : Hp) : Prop := ∀ b xs, H b = some (.tup xs) → H' b = some (.tup xs)
theorem Same.tups {H H' : Hp} (s : Same H H') : TupsStay H H' := fun b xs h => s b _ h
theorem PairsV.stay {H H' : Hp} (s : TupsStay H H') {xs : List V} {ps : List P2} (h : PairsV H xs ps) : PairsV H' xs ps := Paired.imp2 (fun x p ⟨t, e, q⟩ => ⟨t, e, s _ _ q⟩) h
theorem PairsV.len {H : Hp} {xs : List V} {ps : List P2} (h : PairsV H xs ps) : xs.length = ps.length := Paired.length h
theorem PairsV.get {H : Hp} : ∀ {xs : List V} {ps : List P2} {i : Nat} {x : V}, PairsV H xs ps → xs[i]? = some x → ∃ p, ps[i]? = some p ∧ PairV H x p
  | _, _, _, _, .nil, e => by simp at e
  | _, _, 0, _, .cons r _, e => by simp at e; subst e; exact ⟨_, rfl, r⟩
  | _, _, i + 1, x, .cons _ t, e => by
    obtain ⟨u, h1, h2⟩ := PairsV.get (i := i) (x := x) t (by simpa using e)
    exact ⟨u, by simpa using h1, h2⟩
theorem PairsV.app {H : Hp} : ∀ {xs ys : List V} {ps qs : List P2}, PairsV H xs ps → PairsV H ys qs → PairsV H (xs ++ ys) (ps ++ qs)
  | _, _, _, _, .nil, s => s
  | _, _, _, _, .cons r t, s => .cons r (PairsV.app t s)
theorem PairsV.one {H : Hp} {t : Addr} {p : P2} (h : H t = some (.tup [.int p.1, .int p.2])) : PairsV H [.ref t] [p] := .cons ⟨t, rfl, h⟩ .nil
theorem PairsV.mem {H : Hp} : ∀ {xs : List V} {ps : List P2}, PairsV H xs ps → ∀ x ∈ xs, ∃ p ∈ ps, PairV H x p
  | _, _, .nil, x, h => nomatch h
  | _, _, .cons r t, x, h => by
    rcases List.mem_cons.mp h with e | e
    · rw [e]; exact ⟨_, List.mem_cons_self, r⟩
    · obtain ⟨p, m, q⟩ := PairsV.mem t x e
      exact ⟨p, List.mem_cons_of_mem _ m, q⟩
theorem TupsStay.upd {H : Hp} {a : Addr} {o : HO} (h : ∀ xs, H a ≠ some (.tup xs)) : TupsStay H (upd H a o) := fun b xs e => by
  rw [upd_ne (fun z => by subst z; exact h xs e)]
  exact e
theorem TupsStay.trans {H H1 H2 : Hp} (a : TupsStay H H1) (b : TupsStay H1 H2) : TupsStay H H2 := fun c xs e => b c xs (a c xs e)
theorem Same.new {H : Hp} {p : Addr} {o : HO} (h : H p = none) : Same H (upd H p o) := fun a u e => by rw [upd_ne (ne_of_none e h)]; exact e
theorem Same.mut {H H' : Hp} {p : Addr} {o : HO} (s : Same H H') (h : H p = none) : Same H (upd H' p o) := fun a u e => by rw [upd_ne (ne_of_none e h)]; exact s _ _ e
theorem Seqs.same {K : PySem.W.Frag} {H H' : Hp} {a : Addr} {xs : List V} (s : Same H H') (h : Seqs K H a xs) : Seqs K H' a xs := by
  rcases h with h | h
  · exact .inl (s.seq h)
  · exact .inr (SqT.ext h s)
theorem TupP.same {H H' : Hp} {a : Addr} {ps : List P2} (s : Same H H') (h : TupP H a ps) : TupP H' a ps := let ⟨xs, e, q⟩ := h; ⟨xs, s _ _ e, q.stay (Same.tups s)⟩
theorem LstP.same {H H' : Hp} {a : Addr} {ps : List P2} (s : Same H H') (h : LstP H a ps) : LstP H' a ps := let ⟨xs, e, q⟩ := h; ⟨xs, s _ _ e, q.stay (Same.tups s)⟩
/-- an instance of Spans -/
def spF (a : Addr) (n : Int) : List (Str × V) := [("pairs", .ref a), ("many_positions", .int n)]
def SpAt (C : Addr) (H : Hp) (p : Addr) (ps : List P2) : Prop := (∃ dx a, H p = some (.ins C dx (spF a (total ps))) ∧ TupP H a ps) ∧ Canon ps ∧ Oks ps
theorem SpAt.same {C : Addr} {H H' : Hp} {p : Addr} {ps : List P2} (s : Same H H') (h : SpAt C H p ps) : SpAt C H' p ps := let ⟨⟨dx, a, e, q⟩, r⟩ := h; ⟨⟨dx, a, s _ _ e, TupP.same s q⟩, r⟩
theorem pm_ : ¬ (("pairs" : Str) = "many_positions") := by decide +kernel
theorem spF_pairs (a : Addr) (n : Int) : (spF a n).lookup ("pairs" : Str) = some (.ref a) := by
  unfold spF
  rw [List.lookup_cons, beq_self_eq_true]
theorem spF_many (a : Addr) (n : Int) : (spF a n).lookup ("many_positions" : Str) = some (.int n) := by
  unfold spF
  rw [List.lookup_cons, show (("many_positions" : Str) == "pairs") = false by decide +kernel]
  dsimp only
  rw [List.lookup_cons, beq_self_eq_true]
theorem spF_put1 (a : Addr) : putF "pairs" (.ref a) [] = [(("pairs" : Str), V.ref a)] := rfl
theorem spF_put2 (a : Addr) (n : Int) : putF "many_positions" (.int n) [(("pairs" : Str), V.ref a)] = spF a n := by
  show (if ("pairs" : Str) = "many_positions" then _ else (("pairs" : Str), V.ref a) :: putF "many_positions" (.int n) []) = _
  rw [if_neg pm_]
  rfl

/-- the pair at a value -/
def keyOf (H : Hp) : V → P2
  | .ref t => match H t with
    | some (.tup [.int i, .int j]) => (i, j)
    | _ => (0, 0)
  | _ => (0, 0)
theorem keyOf_at {H : Hp} {x : V} {p : P2} (h : PairV H x p) : keyOf H x = p := by
  obtain ⟨t, rfl, e⟩ := h
  simp only [keyOf, e]
theorem PairsV.keys {H : Hp} : ∀ {xs : List V} {ps : List P2}, PairsV H xs ps → xs.map (keyOf H) = ps
  | _, _, .nil => rfl
  | _, _, .cons r t => by rw [List.map_cons, keyOf_at r, PairsV.keys t]
theorem PairsV.ofMem {H : Hp} : ∀ {ys : List V}, (∀ y ∈ ys, ∃ p, PairV H y p) → PairsV H ys (ys.map (keyOf H))
  | [], _ => .nil
  | y :: r, h => by
    obtain ⟨p, q⟩ := h y List.mem_cons_self
    refine .cons ?_ (PairsV.ofMem fun z m => h z (List.mem_cons_of_mem _ m))
    rw [keyOf_at q]
    exact q
theorem PairsV.perm {H : Hp} {xs ys : List V} {ps : List P2} (h : PairsV H xs ps) (q : ys.Perm xs) : PairsV H ys (ys.map (keyOf H)) ∧ (ys.map (keyOf H)).Perm ps := by
  refine ⟨PairsV.ofMem fun y m => ?_, ?_⟩
  · obtain ⟨p, _, r⟩ := h.mem y (q.mem_iff.mp m)
    exact ⟨p, r⟩
  · have := q.map (keyOf H)
    rw [h.keys] at this
    exact this
theorem PairsV.asks {H : Hp} {xs : List V} {ps : List P2} (h : PairsV H xs ps) : ∀ x ∈ xs, ∃ t, x = V.ref t ∧ H t = some (.tup [.int (keyOf H x).1, .int (keyOf H x).2]) := fun x m => by
  obtain ⟨p, _, r⟩ := h.mem x m
  rw [keyOf_at r]
  exact r
theorem srtd_fst {H : Hp} {ys : List V} (s : SrtO.Srtd (ltP (keyOf H)) ys) : (ys.map (keyOf H)).Pairwise (fun p q => p.1 ≤ q.1) := by
  refine List.pairwise_map.mpr (s.imp fun {x y} h => ?_)
  have := SrtO.lexB_no.mp h
  omega
theorem fold_take {α β : Type} {f : β → α → β} {s : β} {l : List α} {i : Nat} {p : α} (h : l[i]? = some p) : (l.take (i + 1)).foldl f s = f ((l.take i).foldl f s) p := by
  rw [List.take_add_one, h, List.foldl_append]
  rfl
/-- what a walk of xs gives, as long as what stood at H0 stands -/
structure Walks (J : It) (H0 : Hp) (xs : List V) : Prop where
  go : ∀ (H : Hp) (i : Nat), Same H0 H → i < xs.length → J.go i H
  stop : ∀ (H : Hp), Same H0 H → J.stop xs.length H
  yld : ∀ (H : Hp) (i : Nat) (x : V) (H' : Hp), Same H0 H → J.yld i H x H' → H' = H ∧ xs[i]? = some x
theorem Walks.tup {K : PySem.W.Frag} {H0 : Hp} {a : Addr} {xs : List V} (h : SqT K H0 a xs) : Walks (Itt K a) H0 xs :=
  ⟨fun H i s hi => ⟨xs, xs[i], SqT.ext h s, List.getElem?_eq_getElem hi⟩, fun H s => ⟨xs, SqT.ext h s, Nat.le_refl _⟩, fun H i x H' s y => ⟨y.1, y.2 xs (SqT.ext h s)⟩⟩
theorem Walks.lst {K : PySem.W.Frag} {H0 : Hp} {a : Addr} {xs : List V} (h : SqL K H0 a xs) : Walks (Itl K a) H0 xs :=
  ⟨fun H i s hi => ⟨xs, xs[i], s.seq h, List.getElem?_eq_getElem hi⟩, fun H s => ⟨xs, s.seq h, Nat.le_refl _⟩, fun H i x H' s y => ⟨y.1, y.2 xs (s.seq h)⟩⟩
/-- [f(p) for p in pairs], f of the pair's numbers alone -/
theorem lc_pairs {J : It} {H0 H : Hp} {D : Addr} {xs : List V} {ps : List P2} {v : P2 → V} {B : V → Hp → (Hp → Prop) → Prop} {Qd : Hp → Prop} (wk : Walks J H0 xs) (hp : PairsV H0 xs ps) (s : Same H0 H) (nD : H D = none) (hz : xs.length ≤ sizeLine)
    (hB : ∀ (H' : Hp) (t : Addr) (p : P2) (Nx : Hp → Prop), p ∈ ps → H' t = some (.tup [.int p.1, .int p.2]) → (∃ acc, H' D = some (.lst acc) ∧ acc.length < sizeLine ∧ Nx (upd H' D (.lst (acc ++ [v p])))) → B (.ref t) H' Nx)
    (hd : ∀ H', Same H0 H' → Same H H' → H' D = some (.lst (ps.map v)) → Qd H') :
    ∃ W : Nat → Nat → Hp → Prop, (∃ m, W 0 m (upd H D (.lst []))) ∧ ∀ i m H, W i m H →
      (J.stop i H ∧ Qd H) ∨ (J.go i H ∧ ∃ Nx : Hp → Prop, (∀ H', Nx H' → ∃ m', m' < m ∧ W (i + 1) m' H') ∧ ∀ x H', J.yld i H x H' → B x H' Nx) := by
  have l := PairsV.len hp
  refine lc_it (n := xs.length) (fun i H' => Same H0 H' ∧ Same H H' ∧ H' D = some (.lst ((ps.take i).map v))) ⟨Same.mut s (s.free nD), Same.new nD, upd_same⟩ (fun i H' hi q => wk.go _ _ q.1 hi) (fun H' q => wk.stop _ q.1) ?_ (fun H' q => hd _ q.1 q.2.1 (by have e := q.2.2; rw [l, List.take_length] at e; exact e))
  rintro i H' x H2 hi ⟨s1, s2, e⟩ y
  obtain ⟨rfl, hx⟩ := wk.yld _ _ _ _ s1 y
  obtain ⟨p, hp2, t, rfl, ht⟩ := PairsV.get (PairsV.stay (Same.tups s1) hp) hx
  refine hB _ _ _ _ (List.mem_of_getElem? hp2) ht ⟨_, e, ?_, Same.mut s1 (s.free nD), Same.mut s2 nD, ?_⟩
  · rw [List.length_map, List.length_take]
    omega
  · rw [upd_same, List.take_add_one, hp2, List.map_append]
    rfl
/-! ### the data that == looks at -/
def dP (p : P2) : PyData := .tuple [.int p.1, .int p.2]
def dT (ps : List P2) : PyData := .tuple (ps.map dP)
theorem dpAll_pairs {K : PySem.W.Frag} {H : Hp} : ∀ {xs : List V} {ps : List P2}, PairsV H xs ps → DpAll K H xs (ps.map dP)
  | _, _, .nil => .nil
  | _, _, .cons ⟨t, e, h⟩ r => by
    subst e
    exact .cons (.tup (SqT.of h) (.cons (.int _) (.cons (.int _) .nil))) (dpAll_pairs r)
theorem dp_tup {K : PySem.W.Frag} {H : Hp} {a : Addr} {ps : List P2} (h : TupP H a ps) : Dp K H (.ref a) (dT ps) := by
  obtain ⟨xs, e, q⟩ := h
  exact .tup (SqT.of e) (dpAll_pairs q)
theorem shapeAll : ∀ ps : List P2, PyData.canLayAll0 (ps.map dP) = true ∧ PyData.depthAll (ps.map dP) ≤ 1
  | [] => by
    refine ⟨by simp only [List.map_nil, PyData.canLayAll0], ?_⟩
    simp only [List.map_nil, PyData.depthAll]
    omega
  | p :: r => by
    obtain ⟨h1, h2⟩ := shapeAll r
    have e1 : PyData.canLay0 (dP p) = true := by simp only [dP, PyData.canLay0, PyData.canLayAll0, Bool.and_self]
    have e2 : PyData.depth (dP p) = 1 := by simp only [dP, PyData.depth, PyData.depthAll, Nat.max_self]
    refine ⟨?_, ?_⟩
    · rw [List.map_cons]
      simp only [PyData.canLayAll0, e1, h1, Bool.and_self]
    · rw [List.map_cons]
      simp only [PyData.depthAll, e2]
      omega
theorem canLay_dT (ps : List P2) : PyData.canLay0 (dT ps) = true := by
  simp only [dT, PyData.canLay0]
  exact (shapeAll ps).1
theorem depth_dT (ps : List P2) : PyData.depth (dT ps) ≤ 2 := by
  have := (shapeAll ps).2
  simp only [dT, PyData.depth]
  omega
theorem shaped_dT (ps : List P2) : SeqAt.shaped (dT ps) = true := by
  show (PyData.canLay0 (dT ps) && decide (PyData.depth (dT ps) ≤ 64)) = true
  have := depth_dT ps
  rw [canLay_dT, Bool.true_and]
  exact decide_eq_true (by omega)
theorem eqv_dP (p q : P2) : PyData.eqv (dP p) (dP q) = decide (p = q) := by
  obtain ⟨a, b⟩ := p
  obtain ⟨c, d⟩ := q
  simp only [dP, PyData.eqv, PyData.eqvAll, Bool.and_true]
  by_cases h1 : a = c
  · by_cases h2 : b = d
    · rw [h1, h2]
      simp
    · simp [h1, h2]
  · simp [h1]
theorem eqvAll_dP : ∀ ps qs : List P2, PyData.eqvAll (ps.map dP) (qs.map dP) = decide (ps = qs)
  | [], [] => by simp [PyData.eqvAll]
  | [], q :: r => by simp [PyData.eqvAll]
  | p :: r, [] => by simp [PyData.eqvAll]
  | p :: r, q :: l => by
    rw [List.map_cons, List.map_cons]
    simp only [PyData.eqvAll, eqv_dP, eqvAll_dP r l]
    by_cases h1 : p = q
    · by_cases h2 : r = l
      · simp [h1, h2]
      · simp [h1, h2]
    · simp [h1]
theorem eqv_dT (ps qs : List P2) : PyData.eqv (dT ps) (dT qs) = decide (ps = qs) := by
  simp only [dT, PyData.eqv]
  exact eqvAll_dP ps qs
theorem sharedF_len (ps qs : List P2) : (sharedF ps qs).length ≤ ps.length * qs.length := by
  unfold sharedF
  refine Nat.le_trans (List.length_filter_le _ _) ?_
  induction ps with
  | nil => simp
  | cons p r ih =>
    rw [List.flatMap_cons, List.length_append, List.length_map, List.length_cons, Nat.succ_mul]
    omega
theorem restF_len (ps : List P2) : (restF ps).length ≤ ps.length + 1 := by
  unfold restF
  refine Nat.le_trans (List.length_filter_le _ _) ?_
  rw [List.length_zip, List.length_cons, List.length_map]
  exact Nat.min_le_left _ _
/-! ### promises of the program's defs -/
def spInteger : Sp := fun vs H Q _ => ∃ i : Int, vs = [.int i] ∧ Q (.bl true) H
def spSpan : Sp := fun vs H Q _ => ∃ (x : V) (p : P2), vs = [x] ∧ PairV H x p ∧ Ok p ∧ Q (.bl true) H
def spUnited (K : PySem.W.Frag) : Sp := fun vs H Q _ => ∃ (a : Addr) (xs : List V) (ps : List P2), vs = [.ref a] ∧ Seqs K H a xs ∧ PairsV H xs ps ∧ Oks ps ∧ ps.length < sizeLine ∧
  ∀ (H' : Hp) (q : Addr) (u : List P2), Same H H' → TupP H' q u → Canon u → Oks u → (∀ x, covers u x ↔ covers ps x) → Q (.ref q) H'
def spShared (K : PySem.W.Frag) : Sp := fun vs H Q _ => ∃ (a b : Addr) (xs ys : List V) (ps qs : List P2), vs = [.ref a, .ref b] ∧ Seqs K H a xs ∧ Seqs K H b ys ∧ PairsV H xs ps ∧ PairsV H ys qs ∧ ps.length ≤ 1000 ∧ qs.length ≤ 1000 ∧
  ∀ (H' : Hp) (l : Addr), Same H H' → LstP H' l (sharedF ps qs) → Q (.ref l) H'
def spRest (K : PySem.W.Frag) : Sp := fun vs H Q _ => ∃ (a : Addr) (xs : List V) (ps : List P2), vs = [.ref a] ∧ SqT K H a xs ∧ PairsV H xs ps ∧ ps.length ≤ 1000 ∧
  ∀ (H' : Hp) (l : Addr), Same H H' → LstP H' l (restF ps) → Q (.ref l) H'
/-- __init__: what stood but the instance is kept -/
def spInit (C : Addr) : Sp := fun vs H Q _ => ∃ (p dx a : Addr) (xs : List V) (ps : List P2), vs = [.ref p, .ref a] ∧ H p = some (.ins C dx []) ∧ H a = some (.tup xs) ∧ PairsV H xs ps ∧ Oks ps ∧ ps.length < sizeLine ∧
  ∀ (H' : Hp) (u : List P2), (∀ b o, b ≠ p → H b = some o → H' b = some o) → SpAt C H' p u → (∀ x, covers u x ↔ covers ps x) → Q .non H'
def spAnd (C : Addr) : Sp := fun vs H Q _ => ∃ (a b : Addr) (ps qs : List P2), vs = [.ref a, .ref b] ∧ SpAt C H a ps ∧ SpAt C H b qs ∧ ps.length ≤ 1000 ∧ qs.length ≤ 1000 ∧
  ∀ (H' : Hp) (r : Addr) (u : List P2), Same H H' → SpAt C H' r u → (∀ x, covers u x ↔ covers ps x ∧ covers qs x) → Q (.ref r) H'
def spOr (C : Addr) : Sp := fun vs H Q _ => ∃ (a b : Addr) (ps qs : List P2), vs = [.ref a, .ref b] ∧ SpAt C H a ps ∧ SpAt C H b qs ∧ ps.length ≤ 1000 ∧ qs.length ≤ 1000 ∧
  ∀ (H' : Hp) (r : Addr) (u : List P2), Same H H' → SpAt C H' r u → (∀ x, covers u x ↔ covers ps x ∨ covers qs x) → Q (.ref r) H'
def spSub (C : Addr) : Sp := fun vs H Q _ => ∃ (a b : Addr) (ps qs : List P2), vs = [.ref a, .ref b] ∧ SpAt C H a ps ∧ SpAt C H b qs ∧ ps.length ≤ 1000 ∧ qs.length ≤ 999 ∧
  ∀ (H' : Hp) (r : Addr) (u : List P2), Same H H' → SpAt C H' r u → (∀ x, covers u x ↔ covers ps x ∧ ¬ covers qs x) → Q (.ref r) H'
def spLen (C : Addr) : Sp := fun vs H Q _ => ∃ (a : Addr) (ps : List P2), vs = [.ref a] ∧ SpAt C H a ps ∧ ∀ H', Same H H' → Q (.int (total ps)) H'
/-- y beside a Spans: another one, or something else -/
def EqTo (K : PySem.W.Frag) (C : Addr) (H : Hp) (ps : List P2) (y : V) (r : Bool) : Prop :=
  (∃ b qs, y = .ref b ∧ SpAt C H b qs ∧ r = decide (ps = qs)) ∨ (r = false ∧ ((∃ b xs, y = .ref b ∧ H b = some (.tup xs)) ∨ ∃ i, y = .int i))
def spEqS (K : PySem.W.Frag) (C : Addr) : Sp := fun vs H Q _ => ∃ (a : Addr) (y : V) (ps : List P2) (r : Bool), vs = [.ref a, y] ∧ SpAt C H a ps ∧ EqTo K C H ps y r ∧ Q (.bl r) H

/-! ### the class, as it may be made -/
structure SpB (P : Program) (w : World) (K : PySem.W.Frag) (mg : Str → Option Value) (base : Heap) (C fI : Addr) : Prop where
  m : Mk K C fI
  f : FnR P w K mg base CX0 3 fI (fun vs H Q E => ∃ ws rest, vs = ws ++ rest ∧ ws.length = ["self"].length ∧ rest.length ≤ sizeLine ∧ ∀ p, H p = Option.none → spInit C (ws ++ [V.ref p]) (upd H p (.tup rest)) Q E)
  g : mg "Spans" = some (.ref C)
section
variable {X : Cx} {C fI : Addr} {m : Nat} {p sp_ pos : Pos} {e e2 : Expr} {es : List Expr} {te : TE} {t : TA}
abbrev spMade (C : Addr) : Sp := fun vs H Q E => ∃ ws rest, vs = ws ++ rest ∧ ws.length = ["self"].length ∧ rest.length ≤ sizeLine ∧ ∀ p, H p = Option.none → spInit C (ws ++ [V.ref p]) (upd H p (.tup rest)) Q E
theorem pe_sp0 (S : SpB X.prog X.w X.K X.mg X.base C fI) (hr : Room m X.A) (hg : Gl X "Spans") (hk : 4 ≤ m := by decide) : PE X (.Call (.Name "Spans" p) [] [] pos) (tMakeR C (spMade C) E0 tNil) :=
  pe_makeR0 S.m S.f (hr.mono hk) hg S.g pass0
theorem pe_sp (S : SpB X.prog X.w X.K X.mg X.base C fI) (hr : Room m X.A) (hg : Gl X "Spans") (ha : PA X (e :: es) t) (hk : 4 ≤ m := by decide)
    (he : starEach (e :: es) X.env = (false, eval e X.env) :: starEach es X.env := by rfl) (hpl : (backTo pos (starEach es X.env)).any (·.1) = false := by rfl) : PE X (.Call (.Name "Spans" p) (e :: es) [] pos) (tMakeR C (spMade C) E0 t) :=
  pe_makeR S.m S.f (hr.mono hk) hg S.g pass0 ha (by decide) he hpl
theorem pe_spS1 (S : SpB X.prog X.w X.K X.mg X.base C fI) (hr : Room m X.A) (hg : Gl X "Spans") (he : PE X e te) (hk : 4 ≤ m := by decide)
    (hst : starEach [.Starred e sp_] X.env = [(true, eval e X.env)] := by rfl) : PE X (.Call (.Name "Spans" p) [.Starred e sp_] [] pos) (tMakeR C (spMade C) E0 (tStar X.K te tNil)) :=
  pe_makeS1 S.m S.f (hr.mono hk) hg S.g pass0 he (by decide) hst
theorem pe_spS2 (S : SpB X.prog X.w X.K X.mg X.base C fI) (hr : Room m X.A) (hg : Gl X "Spans") (ha : PA X (.Starred e sp_ :: e2 :: es) t) (hk : 4 ≤ m := by decide)
    (hst : ∃ b y rest, backTo pos (starEach (.Starred e sp_ :: e2 :: es) X.env) = (true, b) :: y :: rest := by exact ⟨_, _, _, rfl⟩) : PE X (.Call (.Name "Spans" p) (.Starred e sp_ :: e2 :: es) [] pos) (tMakeR C (spMade C) E0 t) :=
  pe_makeS2 S.m S.f (hr.mono hk) hg S.g pass0 ha (by decide) hst
end
/-- what a call of the class asks, and gives -/
theorem made_sp {C : Addr} {H : Hp} {vs : List V} {ps : List P2} {Q : Addr → Hp → Prop} {E : XK} (hv : PairsV H vs ps) (o : Oks ps) (hl : ps.length < sizeLine)
    (k : ∀ (H' : Hp) (x : Addr) (u : List P2), Same H H' → SpAt C H' x u → (∀ y, covers u y ↔ covers ps y) → Q x H') :
    ∀ x dx, H x = Option.none → H dx = Option.none → dx ≠ x → spMade C (V.ref x :: vs) (upd (upd H dx (.own x)) x (.ins C dx [])) (fun v H2 => v = .non ∧ Q x H2) E := by
  intro x dx nx ndx nex
  refine ⟨[.ref x], vs, rfl, rfl, Nat.le_of_lt (by rw [PairsV.len hv]; exact hl), fun p np => ?_⟩
  have npx : p ≠ x := fun z => by rw [z, upd_same] at np; cases np
  have np1 : (upd H dx (.own x)) p = none := by rw [upd_ne npx] at np; exact np
  have npd : p ≠ dx := fun z => by rw [z, upd_same] at np1; cases np1
  have np0 : H p = none := by rw [upd_ne npd] at np1; exact np1
  have s1 : Same H (upd (upd (upd H dx (.own x)) x (.ins C dx [])) p (.tup vs)) := Same.mut (Same.mut (Same.new ndx) nx) np0
  refine ⟨x, dx, p, vs, ps, rfl, by rw [upd_ne npx.symm]; exact upd_same, upd_same, PairsV.stay (Same.tups s1) hv, o, hl, fun H' u kp sp cv => ⟨rfl, k H' x u (fun b ob e => ?_) sp cv⟩⟩
  have nbx : b ≠ x := fun z => by rw [z, nx] at e; cases e
  exact kp b ob nbx (s1 b ob e)
end S1

namespace S1
open PySem PySem.Spec PyProof.Rows L2 StX M1
/-- what the top has written -/
structure Txt (K : PySem.W.Frag) (mg : Str → Option Value) (C : Addr) : Prop where
  n_int : mg "int" = none
  n_bool : mg "bool" = none
  n_tuple : mg "tuple" = none
  n_list : mg "list" = none
  n_dict : mg "dict" = none
  n_len : mg "len" = none
  n_max : mg "max" = none
  n_min : mg "min" = none
  n_sum : mg "sum" = none
  n_all : mg "all" = none
  n_abs : mg "abs" = none
  n_sorted : mg "sorted" = none
  n_range : mg "range" = none
  n_zip : mg "zip" = none
  n_isinstance : mg "isinstance" = none
  g_PAIR : ∃ t, mg "PAIR" = some (.int 2 t)
  g_MOST : ∃ t, mg "MOST" = some (.int 1000000 t)
  c_Spans : mg "Spans" = some (.ref C)
  cl : Cls K C
  nP : NoAttr K C "pairs"
  nM : NoAttr K C "many_positions"
  ha : PySem.W.findIn K (.ref C) "__class__" = some (some (.builtin "object.__class__"))
  hn : PySem.W.specialIn K (.builtin "object.__class__") "__get__" = some (some (.builtin "getset_descriptor.__get__"))
  htk : PySem.W.takesIn K (.builtin "object.__class__") = some true
  hm : PySem.W.mroIn K C (.type "object") = some true
  kS : PySem.W.kitOne K (.ref C) (.ref C) = some true
  kT : PySem.W.kitOne K (.type "tuple") (.ref C) = some false
  kI : PySem.W.kitOne K (.type "int") (.ref C) = some false
  k1 : PySem.W.kitOne K (.type "int") (.type "int") = some true
  k2 : PySem.W.kitOne K (.type "int") (.type "bool") = some false
  k3 : PySem.W.kitOne K (.type "tuple") (.type "tuple") = some true
  fS : PySem.W.notFirst K C (.ref C) = true
  fT : PySem.W.notFirst K C (.type "tuple") = true
  fI : PySem.W.notFirst K C (.type "int") = true
/-- a method of a class -/
def MethOk (P : Program) (w : World) (K : PySem.W.Frag) (mg : Str → Option Value) (base : Heap) (C : Addr) (k : Nat) (m : Str) (ps : List Str) (sp : Sp) : Prop :=
  ∃ f fd, FnOk P w K mg base CX0 k f fd ps sp ∧ Binds K fd ps [] ∧ PySem.W.findIn K (.ref C) m = some (some (.ref f)) ∧ PySem.W.isFn K (.ref f) = true
structure SpC (P : Program) (w : World) (K : PySem.W.Frag) (mg : Str → Option Value) (base : Heap) (C fI : Addr) : Prop extends SpB P w K mg base C fI where
  self1 : PySem.W.selfFirst K C = true
  and_ : MethOk P w K mg base C 5 "__and__" ["self", "other"] (spAnd C)
  or_ : MethOk P w K mg base C 5 "__or__" ["self", "other"] (spOr C)
  sub_ : MethOk P w K mg base C 5 "__sub__" ["self", "other"] (spSub C)
  len_ : MethOk P w K mg base C 1 "__len__" ["self"] (spLen C)
  eq_ : MethOk P w K mg base C 1 "__eq__" ["self", "other"] (spEqS K C)
section
variable {X : Cx} {C fI : Addr} {m : Nat}
theorem SpC.oAnd (S : SpC X.prog X.w X.K X.mg X.base C fI) (hr : Room m X.A) (h : 5 ≤ m := by decide) : OpR X (binaryOp .BitAnd) (rOwn C (spAnd C) E0) := by
  obtain ⟨f, fd, F, b, hs, hf⟩ := S.and_
  exact op_own F (hr.mono h) b pass0 S.self1 (by exact hs) hf
theorem SpC.oOr (S : SpC X.prog X.w X.K X.mg X.base C fI) (hr : Room m X.A) (h : 5 ≤ m := by decide) : OpR X (binaryOp .BitOr) (rOwn C (spOr C) E0) := by
  obtain ⟨f, fd, F, b, hs, hf⟩ := S.or_
  exact op_own F (hr.mono h) b pass0 S.self1 (by exact hs) hf
theorem SpC.oSub (S : SpC X.prog X.w X.K X.mg X.base C fI) (hr : Room m X.A) (h : 5 ≤ m := by decide) : OpR X (binaryOp .Sub) (rOwn C (spSub C) E0) := by
  obtain ⟨f, fd, F, b, hs, hf⟩ := S.sub_
  exact op_own F (hr.mono h) b pass0 S.self1 (by exact hs) hf
theorem SpC.oEq (S : SpC X.prog X.w X.K X.mg X.base C fI) (hr : Room m X.A) (h : 1 ≤ m := by decide) : OpR X (compareOp .Eq) (rOwnEq X.K C (spEqS X.K C) E0) := by
  obtain ⟨f, fd, F, b, hs, hf⟩ := S.eq_
  exact op_ownEq F (hr.mono h) b pass0 hs hf
theorem SpC.oLen (S : SpC X.prog X.w X.K X.mg X.base C fI) (hr : Room m X.A) (h : 2 ≤ m := by decide) : CallR X (.builtin "len") (rOwnLen C (spLen C) E0) := by
  obtain ⟨f, fd, F, b, hs, hf⟩ := S.len_
  exact call_ownLen F (hr.mono h) b (fun _ _ _ _ _ _ _ z => z) hs hf
end
end S1

namespace S1
open PySem PySem.Spec PyProof.Rows L2 StX M1
/-! ### the pot of the law -/
def PotAt (H : Hp) (a : Addr) (B : Int) : Prop := ∃ x y z : Int, H a = some (.lst [.int x, .int y, .int z]) ∧ 0 ≤ y ∧ y < 2305843009213693921 ∧ 0 ≤ z ∧ z ≤ B
theorem PotAt.mono {H : Hp} {a : Addr} {B C : Int} (h : PotAt H a B) (q : B ≤ C) : PotAt H a C := by
  obtain ⟨x, y, z, e, a1, a2, a3, a4⟩ := h
  exact ⟨x, y, z, e, a1, a2, a3, by omega⟩
theorem PotAt.same {H H' : Hp} {a : Addr} {B : Int} (h : PotAt H a B) (s : Same H H') : PotAt H' a B := by
  obtain ⟨x, y, z, e, r⟩ := h
  exact ⟨x, y, z, s _ _ e, r⟩
/-- all but one object are kept -/
def But (p : Addr) (H H' : Hp) : Prop := ∀ b o, b ≠ p → H b = some o → H' b = some o
theorem But.refl (p : Addr) (H : Hp) : But p H H := fun _ _ _ h => h
theorem But.trans {p : Addr} {H H1 H2 : Hp} (a : But p H H1) (b : But p H1 H2) : But p H H2 := fun c o n h => b c o n (a c o n h)
theorem Same.but {H H' : Hp} (s : Same H H') (p : Addr) : But p H H' := fun b o _ h => s b o h
theorem But.put (p : Addr) (H : Hp) (u : HO) : But p H (upd H p u) := fun b o n h => by rw [upd_ne n]; exact h
theorem But.tups {p : Addr} {H H' : Hp} (b : But p H H') {xs : List V} (hp : H p = some (.lst xs)) : TupsStay H H' := fun c ys h => b c _ (fun z => by rw [z, hp] at h; cases h) h
theorem SqL.but {K : PySem.W.Frag} {H H' : Hp} {p a : Addr} {xs : List V} (s : But p H H') (n : a ≠ p) (h : H a = some (.lst xs)) : H' a = some (.lst xs) := s _ _ n h
def spPot (K : PySem.W.Frag) : Sp := fun vs H Q _ => ∃ (a : Addr) (ns : List Int) (k : Int), vs = [.ref a, .int k] ∧ SqL K H a (ns.map V.int) ∧ 0 ≤ k ∧ k ≤ 1000 ∧ ∀ (H' : Hp) (l : Addr), H l = none → Same H H' → PotAt H' l 0 → Q (.ref l) H'
def spDraw : Sp := fun vs H Q _ => ∃ (p : Addr) (n B : Int), vs = [.ref p, .int n] ∧ PotAt H p B ∧ 1 ≤ n ∧ n < 1073741824 ∧ B ≤ 100000 ∧ ∀ (H' : Hp) (d : Int), But p H H' → PotAt H' p (B + 1) → 0 ≤ d → d < n → Q (.int d) H'
def spAny : Sp := fun vs H Q _ => ∃ (p l : Addr) (xs : List V) (B : Int), vs = [.ref p, .ref l] ∧ PotAt H p B ∧ H l = some (.lst xs) ∧ l ≠ p ∧ 1 ≤ xs.length ∧ xs.length < 1073741824 ∧ B ≤ 100000 ∧ ∀ (H' : Hp) (x : V), But p H H' → PotAt H' p (B + 1) → x ∈ xs → Q x H'
theorem fmod_in {i n : Int} (h : 1 ≤ n) : 0 ≤ i.fmod n ∧ i.fmod n < n := ⟨Int.fmod_nonneg_of_pos i (by omega), Int.fmod_lt_of_pos i (by omega)⟩
theorem atI_nat {α : Type} {xs : List α} {i : Int} (h0 : 0 ≤ i) (h1 : i < xs.length) : ∃ x, atI xs i = some x ∧ x ∈ xs := by
  have h2 : i.toNat < xs.length := by omega
  refine ⟨xs[i.toNat], ?_, List.getElem_mem h2⟩
  unfold atI ixN
  rw [if_pos h0, if_pos h1]
  show xs[i.toNat]? = _
  exact List.getElem?_eq_getElem h2
theorem tIf_any {t : TT} {ta tb : TE} {σ : L2.St} {H : Hp} {Q : VK} (P : V → Prop) (h : ∀ R : VK, (∀ v, P v → R v H) → tIf t ta tb σ H R) (k : ∀ v, P v → Q v H) : tIf t ta tb σ H Q := h Q k
theorem mod_ok {i j : Int} (h : 1 ≤ j) : (fun _ j : Int => j ≠ 0) i j := by
  show j ≠ 0
  omega
theorem big_ne : ((10 : Int) ^ (Int.toNat 60)) ^ (Int.toNat 5) ≠ 0 := by decide +kernel
theorem bit_in (b : Bool) : -(2 ^ 64) < (if b then (1 : Int) else 0) ∧ (if b then (1 : Int) else 0) < 2 ^ 64 := by cases b <;> decide
theorem prime_at {i : Int} (h0 : 0 ≤ i) (h1 : i < 5) : ∃ r : Int, atI [V.int 2147483647, V.int 2147483629, V.int 2147483587, V.int 2147483579, V.int 2147483563] i = some (.int r) ∧ 1 ≤ r ∧ r ≤ 2147483647 := by
  obtain ⟨x, e, m⟩ := atI_nat (xs := [V.int 2147483647, V.int 2147483629, V.int 2147483587, V.int 2147483579, V.int 2147483563]) h0 h1
  rcases List.mem_cons.mp m with rfl | m
  · exact ⟨_, e, by decide, by decide⟩
  rcases List.mem_cons.mp m with rfl | m
  · exact ⟨_, e, by decide, by decide⟩
  rcases List.mem_cons.mp m with rfl | m
  · exact ⟨_, e, by decide, by decide⟩
  rcases List.mem_cons.mp m with rfl | m
  · exact ⟨_, e, by decide, by decide⟩
  rcases List.mem_cons.mp m with rfl | m
  · exact ⟨_, e, by decide, by decide⟩
  cases m
theorem sq_in {z : Int} (h0 : 0 ≤ z) (h1 : z ≤ 100001) : 0 ≤ 99991 * z * z ∧ 99991 * z * z ≤ 99991 * 100001 * 100001 := by
  have a1 : 0 ≤ 99991 * z := by omega
  have a2 : 99991 * z ≤ 99991 * 100001 := by omega
  refine ⟨Int.mul_nonneg a1 h0, ?_⟩
  exact Int.le_trans (Int.mul_le_mul_of_nonneg_right a2 h0) (Int.mul_le_mul_of_nonneg_left h1 (by decide))
theorem pow_bits {y z : Int} (y0 : 0 ≤ y) (y1 : y < 2305843009213693921) (h0 : 0 ≤ z) (h1 : z ≤ 100001) : (Builtin.Int.intBits (y + 99991 * z * z + 61) : Int) * 3 ≤ 2 ^ 27 := by
  have q := sq_in h0 h1
  have e : (99991 * 100001 * 100001 : Int) = 999929998299991 := by decide
  have b : Builtin.Int.intBits (y + 99991 * z * z + 61) ≤ 64 := intBits_le_64 (by omega) (by omega)
  have c : (2 : Int) ^ 27 = 134217728 := by decide
  omega
end S1

namespace FL
open PySem PySem.Spec PyProof.Rows L2 StX FN FT FS FZ
open S1 (Dq DqA rSortedTx cr_sortedTx)
/-! ### promises made weaker -/
theorem _root_.L2.FnOk.weak {P : Program} {w : World} {K : PySem.W.Frag} {mg : Str → Option Value} {base : Heap} {CX : CXT} {k : Nat} {f : Addr} {fd : FuncData} {ps : List Str} {sp sp' : Sp} (F : FnOk P w K mg base CX k f fd ps sp) (h : ∀ vs H Q E, sp' vs H Q E → sp vs H Q E) : FnOk P w K mg base CX k f fd ps sp' :=
  ⟨fun vs H Q E q => F.len vs H Q E (h _ _ _ _ q), fun A outer s H args us vs Q E a b c d q => F.run A outer s H args us vs Q E a b c d (h _ _ _ _ q)⟩
/-! ### the pot -/
def cPot (B : Int) : Co := ⟨fun _ o => ∃ x y z : Int, o = .lst [.int x, .int y, .int z] ∧ 0 ≤ y ∧ y < 2305843009213693921 ∧ 0 ≤ z ∧ z ≤ B, fun _ h => h⟩
theorem mv_but {G H H' : Hp} {p : Addr} {C C' : Co} {o : HO} (m : Mv ⟨G, H, [(p, C)]⟩ G H [(p, C)]) (b : S1.But p H H') (h : H' p = some o) (hc : C'.p G o) : Mv ⟨G, H, [(p, C)]⟩ G H' [(p, C')] := by
  obtain ⟨o0, h0, _, g0, _⟩ := m.rs _ List.mem_cons_self
  refine ⟨Same.refl _, fun a o q n => b a o (fun z => n (by rw [z]; exact List.mem_cons_self)) q, fun a o q => b a o (fun z => by rw [z, g0] at q; cases q) (m.sub a o q), fun a o q => .inl q, fun x hx => ?_, List.nodup_cons.mpr ⟨List.not_mem_nil, List.nodup_nil⟩⟩
  rcases List.mem_cons.mp hx with z | z
  · subst z
    exact ⟨o, h, hc, g0, .inl List.mem_cons_self⟩
  · cases z
def S_draw : Spec := fun Ps r Φ => ∃ (p : Addr) (n B : Int), Ps = [rAt p, rInt n] ∧ r = [(p, cPot B)] ∧ 1 ≤ n ∧ n < 1073741824 ∧ B ≤ 100000 ∧ Φ = fun P r' => ∃ d : Int, P = rInt d ∧ (0 ≤ d ∧ d < n) ∧ r' = [(p, cPot (B + 1))]
theorem draw_weak {vs : List V} {H : Hp} {Q : VK} {E : XK} (h : spM S_draw vs H Q E) : S1.spDraw vs H Q E := by
  obtain ⟨G, Ps, r, Φ, ⟨p, n, B, rfl, rfl, h1, h2, h3, rfl⟩, al, mv, q⟩ := h
  cases al with
  | cons a1 al => cases al with
    | cons a2 al =>
      cases al
      have a1 : _ = V.ref p := a1
      have a2 : _ = V.int n := a2
      subst a1 a2
      obtain ⟨o, ho, ⟨x, y, z, rfl, y0, y1, z0, z1⟩, _⟩ := mv.rs _ List.mem_cons_self
      refine ⟨p, n, B, rfl, ⟨x, y, z, ho, y0, y1, z0, z1⟩, h1, h2, h3, fun H' d b pot d0 d1 => ?_⟩
      obtain ⟨x', y', z', hp, r'⟩ := pot
      exact q (.int d) G H' _ _ ⟨d, rfl, ⟨d0, d1⟩, rfl⟩ (mv_but mv b hp ⟨x', y', z', rfl, r'⟩) rfl
def S_pot (K : PySem.W.Frag) : Spec := fun Ps r Φ => ∃ (ns : List Int) (k : Int), Ps = [rLs K (ns.map rInt), rInt k] ∧ r = [] ∧ (0 ≤ k ∧ k ≤ 1000) ∧ Φ = fun P r' => ∃ l : Addr, P = rAt l ∧ r' = [(l, cPot 0)]
theorem pot_weak {K : PySem.W.Frag} {vs : List V} {H : Hp} {Q : VK} {E : XK} (h : spM (S_pot K) vs H Q E) : S1.spPot K vs H Q E := by
  obtain ⟨G, Ps, r, Φ, ⟨ns, k, rfl, rfl, h1, rfl⟩, al, mv, q⟩ := h
  cases al with
  | cons a1 al => cases al with
    | cons a2 al =>
      cases al
      obtain ⟨z, a, ws, e, hs, ak⟩ := a1
      have a2 : _ = V.int k := a2
      subst a2 e
      refine ⟨a, ns, k, rfl, by rw [← all2_ints ak]; exact mv.sub.seq hs, h1.1, h1.2, fun H' l hl sm pot => ?_⟩
      obtain ⟨x', y', z', hp, r'⟩ := pot
      have gl : G l = none := mv.sub.free hl
      refine q (.ref l) G H' _ _ ⟨l, rfl, rfl⟩ ⟨Same.refl _, fun a o q _ => sm a o q, mv.sub.trans sm, fun a o q => .inl q, fun x hx => ?_, List.nodup_cons.mpr ⟨List.not_mem_nil, List.nodup_nil⟩⟩ rfl
      rcases List.mem_cons.mp hx with z | z
      · subst z
        exact ⟨_, hp, ⟨x', y', z', rfl, r'⟩, gl, .inr hl⟩
      · cases z
/-! ### what an expression makes, its things in another sequence, told less -/
section
variable {s s' s1 s2 : Sls} {r r' r1 r2 r3 rc rest pre post : Rs} {ta tb te tv td : TE} {t : TA} {P Q R : Pr} {K : PySem.W.Frag} {Φ : Pr → Rs → Prop} {Ψ Ψ' : Addr → Pr → Rs → Prop} {Ps Qs : List Pr} {e : Ent} {po : Po} {ts us : TS} {C a : Addr} {ns all : List Str} {f nm : Str} {E : XK} {d : PyData} {i j : Int}
theorem EvX.re {ι κ : Sort _} {F : ι → Pr} {ρ : ι → Rs} {F' : κ → Pr} {ρ' : κ → Rs} (g : ι → κ) (h : EvX s r te (fun P r' => ∃ x, P = F x ∧ r' = ρ x)) (k : ∀ x, (∀ G v, (F x).p G v → (F' (g x)).p G v) ∧ (ρ x).Perm (ρ' (g x))) : EvX s r te (fun P r' => ∃ x, P = F' x ∧ r' = ρ' x) := fun e G H σ m l W w => h e G H σ m l W fun v G1 H1 P r' ⟨x, e1, e2⟩ m1 g1 pv => by
  subst e1 e2
  exact w v G1 H1 _ _ ⟨g x, rfl, rfl⟩ (m1.perm (k x).2) g1 ((k x).1 _ _ pv)
theorem EvX.of {Φ : Pr → Rs → Prop} {ι : Sort _} {F : ι → Pr} {ρ : ι → Rs} (h : EvX s r te Φ) (k : ∀ P r', Φ P r' → ∃ x, P = F x ∧ r' = ρ x) : EvX s r te (fun P r' => ∃ x, P = F x ∧ r' = ρ x) := h.imp k
theorem Ev.xs {ι : Sort _} (x : ι) {F : ι → Pr} {ρ : ι → Rs} (h : Ev s r te (F x) (ρ x)) : EvX s r te (fun P r' => ∃ x, P = F x ∧ r' = ρ x) := h.x.imp fun P r' ⟨a, b⟩ => ⟨x, a, b⟩
/-! ### plain lists -/
def rLp (Ps : List Pr) : Pr := ⟨fun G v => Ps.length ≤ sizeLine ∧ ∃ a vs, v = .ref a ∧ G a = some (.lst vs) ∧ All2 G vs Ps, fun k ⟨z, a, vs, e, h, q⟩ => ⟨z, a, vs, e, k _ _ h, q.mono k⟩⟩
theorem ev_lp (h : Ev s r te (rLp Ps) r1) : Ev s r te (rLs K Ps) r1 := h.imp fun G v ⟨z, a, vs, e, h, q⟩ => ⟨z, a, vs, e, SqL.of h, q⟩
theorem ev_lstP {tr : TA} (h : EvA s r tr Ps r1) (hz : Ps.length ≤ 1000 := by first | decide | exact Nat.le_of_ble_eq_true rfl) : Ev s r (tLst tr) (rLp Ps) r1 := fun e G H σ m k W w =>
  h e G H σ m k _ fun vs G1 H1 m1 g1 pvs => ⟨by rw [pvs.len]; exact Nat.le_trans hz (by decide), fun p hp => w _ (upd G1 p (.lst vs)) _ (m1.new hp) (g1.trans (same_new (m1.sub.free hp))) ⟨Nat.le_trans hz (by decide), p, vs, rfl, upd_same, pvs.mono (same_new (m1.sub.free hp))⟩⟩
theorem ev_cat (ha : Ev s r ta (rLp Ps) r1) (hb : Ev s r1 tb (rLp Qs) r2) (hz : Ps.length + Qs.length ≤ sizeLine) : Ev s r (tOp rCat ta tb) (rLp (Ps ++ Qs)) r2 := fun e G H σ m l W w => ha e G H σ m l _ fun x G1 H1 m1 g1 px => hb e G1 H1 σ m1 (l.mono g1) _ fun y G2 H2 m2 g2 py => by
  obtain ⟨_, a, vs, e1, h1, q1⟩ := Pr.m _ g2 px
  obtain ⟨_, b, ws, e2, h2, q2⟩ := py
  refine ⟨a, b, vs, ws, e1, e2, m2.sub _ _ h1, m2.sub _ _ h2, by rw [q1.len, q2.len]; exact hz, fun p hp => ?_⟩
  have gn := same_new (o := .lst (vs ++ ws)) (m2.sub.free hp)
  exact w _ _ _ (m2.new hp) ((g1.trans g2).trans gn) ⟨by rw [List.length_append]; exact hz, p, _, rfl, upd_same, (q1.app q2).mono gn⟩
theorem all2_rep {G : Hp} {vs : List V} (h : All2 G vs Ps) : ∀ n, All2 G (List.replicate n vs).flatten (List.replicate n Ps).flatten
  | 0 => .nil
  | n + 1 => by
    rw [List.replicate_succ, List.replicate_succ, List.flatten_cons, List.flatten_cons]
    exact h.app (all2_rep h n)
theorem len_rep : ∀ n, (List.replicate n Ps).flatten.length = Ps.length * n
  | 0 => rfl
  | n + 1 => by rw [List.replicate_succ, List.flatten_cons, List.length_append, len_rep n, Nat.mul_succ, Nat.add_comm]
theorem ev_rep (n : Nat) (ha : Ev s r ta (rLp Ps) r1) (hb : Ev s r1 tb (rInt (n : Int)) r2) (hn : n ≤ 1000) (hz : Ps.length * n ≤ sizeLine) : Ev s r (tOp rRep ta tb) (rLp (List.replicate n Ps).flatten) r2 := fun e G H σ m l W w => ha e G H σ m l _ fun x G1 H1 m1 g1 px => hb e G1 H1 σ m1 (l.mono g1) _ fun y G2 H2 m2 g2 py => by
  obtain ⟨_, a, vs, e1, h1, q1⟩ := Pr.m _ g2 px
  have hl : (List.replicate n Ps).flatten.length = Ps.length * n := len_rep n
  refine ⟨a, (n : Int), vs, e1, py, m2.sub _ _ h1, by omega, by omega, by rw [q1.len, Int.toNat_natCast]; exact hz, fun p hp => ?_⟩
  rw [Int.toNat_natCast]
  have gn := same_new (o := .lst (List.replicate n vs).flatten) (m2.sub.free hp)
  exact w _ _ _ (m2.new hp) ((g1.trans g2).trans gn) ⟨by rw [hl]; exact hz, p, _, rfl, upd_same, (all2_rep q1 n).mono gn⟩
end
end FL

namespace FL
open PySem PySem.Spec PyProof.Rows L2 StX FN FT FS FZ
open S1 (Dq DqA rSortedTx cr_sortedTx tLamC Chg tMethN rReprQ call_reprQ)
/-! ### data of any kind, made -/
section
variable {s s' s1 s2 : Sls} {r r' r1 r2 r3 rc rest pre post : Rs} {ta tb te tv td : TE} {t tk : TA} {P Q R : Pr} {K : PySem.W.Frag} {Φ Φ' : Pr → Rs → Prop} {Ψ Ψ' : Addr → Pr → Rs → Prop} {Ps Qs : List Pr} {e : Ent} {po : Po} {ts us : TS} {C a : Addr} {ns all : List Str} {f nm : Str} {E : XK} {d : PyData} {ds es : List PyData} {i j : Int}
theorem dqa_of {G : Hp} : ∀ {vs : List V} {ds : List PyData}, All2 G vs (ds.map (rDq K)) → DqA K G vs ds
  | _, [], h => by cases h; exact .nil
  | _, d :: ds, h => by
    rw [List.map_cons] at h
    cases h with
    | cons a t => exact .cons a (dqa_of t)
theorem of_dqa {G : Hp} : ∀ {vs : List V} {ds : List PyData}, DqA K G vs ds → All2 G vs (ds.map (rDq K))
  | _, [], h => by cases h; exact .nil
  | _, d :: ds, h => by
    cases h with
    | cons a t => exact .cons a (of_dqa t)
theorem ev_tupD {tr : TA} (h : EvA s r tr (ds.map (rDq K)) r1) (hz : ds.length ≤ 1000 := by first | decide | exact Nat.le_of_ble_eq_true rfl) : Ev s r (tTup tr) (rDq K (.tuple ds)) r1 := fun e G H σ m k W w =>
  h e G H σ m k _ fun vs G1 H1 m1 g1 pvs => ⟨by rw [pvs.len, List.length_map]; exact Nat.le_trans hz (by decide), fun p hp => w _ (upd G1 p (.tup vs)) _ (m1.new hp) (g1.trans (same_new (m1.sub.free hp))) (.tup (SqT.of upd_same) (DqA.same (same_new (m1.sub.free hp)) (dqa_of pvs)))⟩
theorem ev_lstD {tr : TA} (h : EvA s r tr (ds.map (rDq K)) r1) (hz : ds.length ≤ 1000 := by first | decide | exact Nat.le_of_ble_eq_true rfl) : Ev s r (tLst tr) (rDq K (.list ds)) r1 := fun e G H σ m k W w =>
  h e G H σ m k _ fun vs G1 H1 m1 g1 pvs => ⟨by rw [pvs.len, List.length_map]; exact Nat.le_trans hz (by decide), fun p hp => w _ (upd G1 p (.lst vs)) _ (m1.new hp) (g1.trans (same_new (m1.sub.free hp))) (.lst upd_same (DqA.same (same_new (m1.sub.free hp)) (dqa_of pvs)))⟩
theorem ev_dctD : Ev s r tDNewK (rDq K (.dict [])) r := fun e G H σ m k W w p hp => w _ (upd G p (.dK [])) _ (m.new hp) (same_new (m.sub.free hp)) (.dct upd_same rfl .nil)
theorem q_int : ∀ (G : Hp) (v : V), (rInt i).p G v → (rDq K (.int i)).p G v := fun G v h => by rw [show v = _ from h]; exact .int i
theorem q_str {z : Str} : ∀ (G : Hp) (v : V), (rStr z).p G v → (rDq K (.str z)).p G v := fun G v h => by rw [show v = _ from h]; exact .str z
theorem q_non : ∀ (G : Hp) (v : V), rNon.p G v → (rDq K .none).p G v := fun G v h => by rw [show v = _ from h]; exact .non
theorem q_bl {b : Bool} : ∀ (G : Hp) (v : V), (rBl b).p G v → (rDq K (.bool b)).p G v := fun G v h => by rw [show v = _ from h]; exact .bl b
theorem ev_dI (h : Ev s r te (rInt i) r1) : Ev s r te (rDq K (.int i)) r1 := h.imp q_int
theorem ev_dS {z : Str} (h : Ev s r te (rStr z) r1) : Ev s r te (rDq K (.str z)) r1 := h.imp q_str
theorem ev_dN (h : Ev s r te rNon r1) : Ev s r te (rDq K .none) r1 := h.imp q_non
theorem ev_dB {b : Bool} (h : Ev s r te (rBl b) r1) : Ev s r te (rDq K (.bool b)) r1 := h.imp q_bl
theorem ev_cI : Ev s r (tC (.int i)) (rDq K (.int i)) r := ev_dI ev_int
theorem ev_cS {z : Str} : Ev s r (tC (.str z)) (rDq K (.str z)) r := ev_dS ev_str
theorem ev_cN : Ev s r (tC .non) (rDq K .none) r := ev_dN ev_non
theorem ev_cB {b : Bool} : Ev s r (tC (.bl b)) (rDq K (.bool b)) r := ev_dB ev_bl
theorem ev_dTs (h : Ev s r te (rDq K (.tuple ds)) r1) (hz : ds.length ≤ sizeLine) : Ev s r te (rTs K (ds.map (rDq K))) r1 := h.imp fun G v q => by
  cases (show Dq K G v (.tuple ds) from q) with
  | tup e q => exact ⟨by rw [List.length_map]; exact hz, _, _, rfl, e, of_dqa q⟩
/-- repr of a tuple of data -/
theorem ev_repr (h : EvA s r t [rDq K (.tuple ds)] r1) (h1 : (PyData.tuple ds).showable = true) (h2 : (PyData.tuple ds).depth ≤ 60) (h3 : (PyData.tuple ds).shown.length ≤ sizeLine) : Ev s r (tCB (rReprQ K) t) (rStr (PyData.tuple ds).shown) r1 := ev_cb h fun G H vs sm al W w => by
  cases al with
  | cons av al =>
    cases al
    cases (show Dq K G _ (.tuple ds) from av) with
    | tup e q => exact ⟨_, _, ds, _, rfl, DqA.same sm q, .inr ⟨SqT.ext e sm, rfl⟩, h1, h2, h3, w _ rfl⟩
/-! ### what is put into a list -/
theorem tg_lst (j : Nat) (pre : Rs) {tix : TE} (ho : Ev s r ta (rAt a) r1) (hi : Ev s r1 tix (rInt (j : Int)) (pre ++ (a, cLs Qs) :: post)) (hj : j < Qs.length) :
    Tg K (gSub ta tix rSetL) P s r s (pre ++ (a, cLs (Qs.set j P)) :: post) := fun e G H σ v m l pv Q q => ho e G H σ m l _ fun x G1 H1 m1 g1 px => hi e G1 H1 σ m1 (l.mono g1) _ fun y G2 H2 m2 g2 py => by
  obtain ⟨o, hO, ⟨hz, vs, rfl, al⟩⟩ := m2.at_ (List.mem_append_right _ List.mem_cons_self)
  have hjv : j < vs.length := by rw [al.len]; exact hj
  refine ⟨a, vs, (j : Int), j, px, py, hO, ?_, q _ _ _ (m2.putAt ⟨by rw [List.length_set]; exact hz, _, rfl, All2.set (P.m (g1.trans g2) pv) j al⟩) (g1.trans g2) (l.mono (g1.trans g2))⟩
  unfold ixN
  rw [if_pos (by omega : (0 : Int) ≤ (j : Int)), if_pos (by omega)]
  rfl
theorem ok_tg {g : TG} (h : Ev s r te P r1) (k : Tg K g P s r1 s2 r2) (hk : po.nx s2 r2) : Ok e s r (tAsg te g) po := fun G H σ m l D d => h e G H σ m l _ fun v G1 H1 m1 g1 pv => k e G1 H1 σ v m1 (l.mono g1) pv _ fun σ2 G2 H2 m2 g2 l2 => d.nx _ _ _ _ _ hk m2 (g1.trans g2) l2
/-- xs[i], of a list that may be written -/
theorem ev_ixO (n : Nat) (ha : Ev s r ta (rAt a) r1) (hb : Ev s r1 tb (rInt (n : Int)) r2) (hm : (a, cLs Ps) ∈ r2) (h : Ps[n]? = some P) : Ev s r (tOp (rIxL K) ta tb) P r2 := fun e G H σ m l W w => ha e G H σ m l _ fun x G1 H1 m1 g1 px => hb e G1 H1 σ m1 (l.mono g1) _ fun y G2 H2 m2 g2 py => by
  obtain ⟨o, hO, ⟨hz, vs, rfl, al⟩⟩ := m2.at_ hm
  obtain ⟨v, hv, pv⟩ := al.get' h
  exact ⟨a, vs, (n : Int), v, px, py, SqL.of hO, atI_nn (by omega) (by rw [Int.toNat_natCast]; exact hv), w v G2 H2 m2 (g1.trans g2) pv⟩
/-! ### tables of code objects -/
def cTab (q : Str) : Co := ⟨fun G o => ∃ ps : Array Value, o = .tbl ps ∧ TriplesOk ps.toList ∧ ∀ (pos : Pos) (cv : Value), codeAmong pos ps.toList = some cv → ∃ c, cv = .ref c ∧ G c = some (LamX.CodeO c q), fun k ⟨ps, e, h, q⟩ => ⟨ps, e, h, fun pos cv z => by
  obtain ⟨c, e1, e2⟩ := q pos cv z
  exact ⟨c, e1, k _ _ e2⟩⟩⟩
theorem mv_tab {G H H1 : Hp} {T : Addr} {q : Str} (m : Mv e G H (pre ++ (T, cTab q) :: post)) (ch : Chg T q H H1) : ∃ G1, Same G G1 ∧ Mv e G1 H1 (pre ++ (T, cTab q) :: post) := by
  rcases ch with rfl | ⟨ps, more, c, hT, hc, rfl, tri, known⟩
  · exact ⟨G, Same.refl _, m⟩
  · have ne : T ≠ c := ne_of_none hT hc
    have gc : G c = none := m.sub.free hc
    have m1 := m.new (o := LamX.CodeO c q) hc
    obtain ⟨o, ho, ⟨ps0, rfl, tri0, known0⟩⟩ := m.at_ (List.mem_append_right _ List.mem_cons_self)
    rw [hT] at ho
    cases ho
    have gT : G T = none := by
      obtain ⟨_, _, _, g, _⟩ := m.rs (T, cTab q) (List.mem_append_right _ List.mem_cons_self)
      exact g
    refine ⟨upd G c (LamX.CodeO c q), same_new gc, ?_⟩
    have m2 := m1.putAt (C' := cTab q) (o := .tbl (ps ++ more)) ⟨_, rfl, tri, fun pos cv z => ?_⟩
    · have : upd (upd H c (LamX.CodeO c q)) T (HO.tbl (ps ++ more)) = upd (upd H T (HO.tbl (ps ++ more))) c (LamX.CodeO c q) := by
        funext b
        unfold upd
        by_cases h1 : b = T
        · have h2 : b ≠ c := by rw [h1]; exact ne
          rw [if_pos h1, if_neg h2, if_pos h1]
        · by_cases h2 : b = c
          · rw [if_neg h1, if_pos h2, if_pos h2]
          · rw [if_neg h1, if_neg h2, if_neg h2, if_neg h1]
      rw [← this]
      exact m2
    · rcases known pos cv z with z | z
      · obtain ⟨c0, e1, e2⟩ := known0 pos cv z
        exact ⟨c0, e1, same_new gc _ _ e2⟩
      · exact ⟨c, z, upd_same⟩
end
end FL

namespace FL
open PySem PySem.Spec PyProof.Rows L2 StX FN FT FS FZ
open S1 (Dq DqA rSortedTx cr_sortedTx tLamC Chg tMethN rReprQ call_reprQ)
abbrev E0 : XK := fun _ _ _ => False
theorem passN {X : Cx} : Passes (L2.CX X.prog X.w) X E0 := fun _ _ _ _ _ _ _ ⟨_, _, _, _, _, _, _, _, _, _, _, _, f⟩ => f.elim
theorem xle0 {e : Ent} {E : XK} : XLe e (fun _ _ _ => False) E := fun C P r' G' H' d v h => h.elim
/-- a class whose __init__ has default values behind -/
structure CalJ (P : Program) (w : World) (K : PySem.W.Frag) (mg : Str → Option Value) (base : Heap) (CX : CXT) (C : Addr) (k : Nat) (x : Str) (ps : List Str) (dvs : List V) (sp : Sp) : Prop where
  ex : ∃ f fd ds, FnOk P w K mg base CX k f fd ps sp ∧ Mk K C f ∧ mg x = some (.ref C) ∧ Binds K fd ps ds ∧ Vals dvs ds
/-- a method called with keywords: n positional values, keywords ks -/
structure CalN (P : Program) (w : World) (K : PySem.W.Frag) (mg : Str → Option Value) (base : Heap) (CX : CXT) (C : Addr) (k : Nat) (m : Str) (ps : List Str) (n : Nat) (ks : List Str) (gV : List V → List V → List V) (sp : Sp) : Prop where
  ex : ∃ f fd g, FnOk P w K mg base CX k f fd ps sp ∧ Cls K C ∧ Meth K C m f ∧ KBn K fd ps (n + 1) ks g gV
/-- a class whose __init__ takes self and any number of values -/
structure CalS (P : Program) (w : World) (K : PySem.W.Frag) (mg : Str → Option Value) (base : Heap) (CX : CXT) (C : Addr) (k : Nat) (x : Str) (sp : Sp) : Prop where
  ex : ∃ f, FnR P w K mg base CX k f sp ∧ Mk K C f ∧ mg x = some (.ref C)
section
variable {X : Cx} {k m : Nat} {ps ks : List Str} {sp : Sp} {x : Str} {p pos apos : Pos} {e o : Expr} {es : List Expr} {kws : List Keyword} {t tk : TA} {CX : CXT} {E : XK} {C : Addr} {ta : TE} {nm : Str} {dvs : List V} {n : Nat} {gV : List V → List V → List V}
theorem pe_cJ (D : CalJ X.prog X.w X.K X.mg X.base CX C k x ps dvs sp) (hx : Passes CX X E) (hr : Room m X.A) (hg : Gl X x) (ha : PA X (e :: es) t) (hk : k + 1 ≤ m := by decide) (hdb : (x == ("__debug__" : Str)) = false := by decide)
    (he : starEach (e :: es) X.env = (false, eval e X.env) :: starEach es X.env := by rfl) (hpl : (backTo pos (starEach es X.env)).any (·.1) = false := by rfl) : PE X (.Call (.Name x p) (e :: es) [] pos) (tMake C sp dvs E t) := by
  obtain ⟨f, fd, ds, h1, h2, h3, h4, h5⟩ := D.ex
  exact pe_make h2 h1 (hr.mono hk) hg h3 h4 h5 hx ha hdb he hpl
theorem pe_cN {pl : Sem Bool} (D : CalN X.prog X.w X.K X.mg X.base CX C k nm ps n ks gV sp) (hx : Passes CX X E) (hr : Room m X.A) (ho : PE X o ta) (ha : PA X (e :: es) t) (hkw : PK X kws tk) (hk : k ≤ m := by decide)
    (hall : (backToKw pos (keywordEach kws X.env)).all (·.1.isSome) = true := by rfl) (hks : (backToKw pos (keywordEach kws X.env)).filterMap (·.1) = ks := by rfl) (hst : starEach (e :: es) X.env = (false, eval e X.env) :: starEach es X.env := by rfl)
    (hpl : ((backTo pos (starEach (e :: es) X.env)).any (·.1) || (backToKw pos (keywordEach kws X.env)).any (·.1.isNone)) = false := by rfl)
    (way : eval (.Call (.Attribute o nm apos) (e :: es) kws pos) X.env = (do
      let ov ← eval o X.env
      standAt apos.atName
      let (f, first) ← holding [ov] (getMethod ov nm pl)
      callWith pos f first (backTo pos (starEach (e :: es) X.env)) (backToKw pos (keywordEach kws X.env))) := by rfl) :
    PE X (.Call (.Attribute o nm apos) (e :: es) kws pos) (tMethN C nm n ks.length sp gV E ta t tk) := by
  obtain ⟨f, fd, g, h1, h2, h3, h4⟩ := D.ex
  exact S1.pe_methN ho h2 h3 h1 (hr.mono hk) h4 hx ha hkw hall hks hst hpl way
theorem pe_cS (D : CalS X.prog X.w X.K X.mg X.base CX C k x sp) (hx : Passes CX X E) (hr : Room m X.A) (hg : Gl X x) (ha : PA X (e :: es) t) (hk : k + 1 ≤ m := by decide) (hdb : (x == ("__debug__" : Str)) = false := by decide)
    (he : starEach (e :: es) X.env = (false, eval e X.env) :: starEach es X.env := by rfl) (hpl : (backTo pos (starEach es X.env)).any (·.1) = false := by rfl) : PE X (.Call (.Name x p) (e :: es) [] pos) (tMakeR C sp E t) := by
  obtain ⟨f, h1, h2, h3⟩ := D.ex
  exact pe_makeR h2 h1 (hr.mono hk) hg h3 hx ha hdb he hpl
theorem pe_cS0 (D : CalS X.prog X.w X.K X.mg X.base CX C k x sp) (hx : Passes CX X E) (hr : Room m X.A) (hg : Gl X x) (hk : k + 1 ≤ m := by decide) (hdb : (x == ("__debug__" : Str)) = false := by decide) : PE X (.Call (.Name x p) [] [] pos) (tMakeR C sp E tNil) := by
  obtain ⟨f, h1, h2, h3⟩ := D.ex
  exact S1.pe_makeR0 h2 h1 (hr.mono hk) hg h3 hx hdb
end
/-- self, *vs -/
def spSt (S : SpecR) : Sp := fun vs H Q E => ∃ ws rest, vs = ws ++ rest ∧ ws.length = ["self"].length ∧ rest.length ≤ sizeLine ∧ ∀ p, H p = Option.none → spR S (ws ++ [V.ref p]) (upd H p (.tup rest)) Q E
section
variable {s s' s1 s2 : Sls} {r r' r1 r2 r3 rc rest pre post : Rs} {ta tb te tv td : TE} {t tk : TA} {P Q R : Pr} {K : PySem.W.Frag} {Φ Φ' : Pr → Rs → Prop} {Ψ Ψ' : Addr → Pr → Rs → Prop} {Ps Qs Zs : List Pr} {e : Ent} {po : Po} {ts us : TS} {C a : Addr} {ns all : List Str} {f nm q : Str} {E : XK} {S : SpecR} {n mk : Nat} {gV : List V → List V → List V} {T : Addr}
/-- C(..), default values behind, that may raise -/
theorem ex_makeR {Φ : Addr → Pr → Rs → Prop} {Ψ' : Addr → Addr → Pr → Rs → Prop} {dvs : List V} (Ds : List Pr) (rc rest : Rs) (h : EvA s r t Ps (rc ++ rest)) (hD : ∀ G, All2 G dvs Ds) (hS : ∀ x, S (rAt x :: (Ps ++ Ds)) ((x, cOb C [] []) :: rc) (Φ x) (Ψ' x)) (hn : ∀ x P r', Φ x P r' → P = rNon) (hx : XLe e Ψ E) (hΨ : ∀ x D P r', Ψ' x D P r' → Ψ D P (r' ++ rest)) :
    EvXe e s r (tMake C (spR S) dvs E t) (fun P r' => ∃ x r1, P = rAt x ∧ Φ x rNon r1 ∧ r' = r1 ++ rest) := fun G H σ m l W w => h e G H σ m l _ fun vs G1 H1 m1 g1 al => by
  intro x dx hX hdx ne
  have m2 := m1.hid (o := .own x) hdx
  have hx2 : (upd H1 dx (.own x)) x = none := by rw [upd_ne (Ne.symm ne)]; exact hX
  have m3 := m2.own (o := .ins C dx []) (C := cOb C [] []) hx2 ⟨dx, [], rfl, rfl, .nil⟩
  have m4 : Mv e G1 (upd (upd H1 dx (.own x)) x (.ins C dx [])) (((x, cOb C [] []) :: rc) ++ rest) := m3
  exact ⟨G1, _, _, Φ x, Ψ' x, hS x, .cons rfl (al.app (hD G1)), m4.drop.self, fun v G3 H3 P r' f m5 pv => by
    have := hn x P r' f
    subst this
    exact ⟨pv, w (.ref x) G3 H3 (rAt x) _ ⟨x, r', rfl, f, rfl⟩ (m4.trans m5) (g1.trans m5.gg) rfl⟩, fun D P r' G' H' d v f m5 hd pv => hx D P _ G' H' d v (hΨ x _ _ _ f) (m4.trans m5) hd pv⟩
/-- C(..) of any number of values, frozen at once: nothing is raised -/
theorem ev_makeS {Φ : Addr → Pr → Rs → Prop} (h : EvA s r t Ps r1) (hz : Ps.length ≤ sizeLine) (hS : ∀ x, S [rAt x, rTs K Ps] [(x, cOb C [] [])] (Φ x) (fun _ _ _ => False)) (hΦ : ∀ x P r', Φ x P r' → P = rNon ∧ ∃ Qs, r' = [(x, cOb C ns Qs)] ∧ ∀ G v, (rOb C ns Qs).p G v → R.p G v) :
    Ev s r (tMakeR C (spSt S) E t) R r1 := fun e G H σ m l W w => h e G H σ m l _ fun vs G1 H1 m1 g1 al => by
  intro x dx hX hdx ne
  refine ⟨[.ref x], vs, rfl, rfl, by rw [al.len]; exact hz, fun p hp => ?_⟩
  have m2 := m1.hid (o := .own x) hdx
  have hx2 : (upd H1 dx (.own x)) x = none := by rw [upd_ne (Ne.symm ne)]; exact hX
  have m3 := m2.own (o := .ins C dx []) (C := cOb C [] []) hx2 ⟨dx, [], rfl, rfl, .nil⟩
  have m4 := m3.new (o := .tup vs) hp
  have g4 := same_new (o := .tup vs) (m3.sub.free hp)
  have m4 : Mv e (upd G1 p (.tup vs)) _ ([(x, cOb C [] [])] ++ r1) := m4
  refine ⟨_, _, _, Φ x, _, hS x, .cons rfl (.cons ⟨hz, p, vs, rfl, SqT.of upd_same, al.mono g4⟩ .nil), m4.drop.self, fun v G3 H3 P r' f m5 pv => ?_, fun D P r' G' H' d v f => f.elim⟩
  obtain ⟨rfl, Qs, rfl, k⟩ := hΦ x P r' f
  refine ⟨pv, ?_⟩
  obtain ⟨o, ho, ⟨dx, vs, rfl, z, al⟩, gn, m6⟩ := Mv.freeze (h := (m4.trans m5 : Mv e G3 H3 ((x, cOb C ns Qs) :: ([] ++ r1))))
  exact w _ _ _ m6 ((g1.trans g4).trans (m5.gg.trans (same_new gn))) (k _ _ ⟨x, dx, vs, rfl, upd_same, z, al.mono (same_new gn)⟩)
/-- o.m(.., k = ..), o may be written, that may raise -/
theorem ex_methNR (rc rest : Rs) (Zs : List Pr) (h0 : Ev s r ta (rAt a) r1) (hi : (a, cOb C ns Qs) ∈ r1) (h : EvA s r1 t Ps r2) (hk : EvA s r2 tk Zs (rc ++ rest)) (hn : Ps.length = n) (hm' : Zs.length = mk) (hg : ∀ G x vs zs, (rAt a).p G x → All2 G vs Ps → All2 G zs Zs → All2 G (gV (x :: vs) zs) (rAt a :: (Ps ++ Zs))) (hS : S (rAt a :: (Ps ++ Zs)) rc Φ Ψ') (hx : XLe e Ψ E) (hΨ : ∀ C P r', Ψ' C P r' → Ψ C P (r' ++ rest)) (hm : look ns nm = none := by decide +kernel) :
    EvXe e s r (tMethN C nm n mk (spR S) gV E ta t tk) (fun P r' => ∃ r1, Φ P r1 ∧ r' = r1 ++ rest) := fun G H σ m l W w => h0 e G H σ m l _ fun x G1 H1 m1 g1 px => by
  obtain ⟨o, ho, ⟨dx, vs, rfl, z, al⟩⟩ := m1.at_ hi
  refine ⟨a, dx, _, px, ho, look_no hm, h e G1 H1 σ m1 (l.mono g1) _ fun us G2 H2 m2 g2 al2 => hk e G2 H2 σ m2 (l.mono (g1.trans g2)) _ fun zs G3 H3 m3 g3 al3 => ⟨by rw [al2.len, hn], by rw [al3.len, hm'], ?_⟩⟩
  exact ⟨G3, _, rc, Φ, Ψ', hS, hg G3 x us zs px (al2.mono g3) al3, m3.drop.self, fun v G4 H4 P r' f m4 pv => w v G4 H4 P _ ⟨r', f, rfl⟩ (m3.trans m4) ((g1.trans (g2.trans g3)).trans m4.gg) pv, fun C P r' G' H' d v f m4 hd pv => hx C P _ G' H' d v (hΨ _ _ _ f) (m3.trans m4) hd pv⟩
/-- what the law's own catcher tells of an error: its word and its value -/
def eCau (tbl : List (Addr × Str)) (Q : VK) : XK := fun cls d H' => ∃ (C : Addr) (z : Str) (dd : Addr) (v : V), (C, z) ∈ tbl ∧ cls = .ref C ∧ d = some dd ∧ H' dd = some (.xd [(("value" : Str), v)]) ∧ (2 ≤ sizeLine ∧ ∀ p, H' p = none → Q (.ref p) (upd H' p (.tup [.str z, v])))
def TTc (tbl : List (Addr × Str)) : (XK → Hp → VK → Prop) → Hp → VK → Prop := fun tl H Q => tl (eCau tbl Q) H fun v H' => 2 ≤ sizeLine ∧ ∀ p, H' p = none → Q (.ref p) (upd H' p (.tup [.str "told", v]))
theorem dq_pair {G : Hp} {p : Addr} {z : Str} {v : V} {d : PyData} (gp : G p = none) (h : Dq K G v d) : (rDq K (.tuple [.str z, d])).p (upd G p (.tup [.str z, v])) (.ref p) :=
  .tup (SqT.of upd_same) (.cons (.str z) (.cons (Dq.same (same_new gp) h) .nil))
/-- caught(lambda: e) -/
theorem ex_lam {tbl : List (Addr × Str)} {t : XK → TE} (pre post : Rs) (hr : r = pre ++ (T, cTab q) :: post) (h : ∀ e E, XLe e Ψ E → EvXe e s r (t E) Φ) (hΦ : ∀ P r', Φ P r' → ∃ d, (∀ G v, P.p G v → (rDq K d).p G v) ∧ Φ' (rDq K (.tuple [.str "told", d])) r')
    (hΨ : ∀ C P r', Ψ C P r' → ∃ z d, (C, z) ∈ tbl ∧ (∀ G v, P.p G v → (rDq K d).p G v) ∧ Φ' (rDq K (.tuple [.str z, d])) r') : EvX s r (tLamC T q (TTc tbl) t) Φ' := fun e G H σ m l W w => by
  subst hr
  obtain ⟨o, ho, ⟨ps, rfl, tri, known⟩⟩ := m.at_ (p := T) (C := cTab q) (List.mem_append_right _ List.mem_cons_self)
  refine ⟨⟨ps, ho, tri, fun pos cv z => ?_⟩, fun H1 ch => ?_⟩
  · obtain ⟨c, e1, e2⟩ := known pos cv z
    exact ⟨c, e1, m.sub _ _ e2⟩
  · obtain ⟨G1, g1, m1⟩ := mv_tab m ch
    have back : ∀ {G' H' r'}, Mv ⟨G1, H1, pre ++ (T, cTab q) :: post⟩ G' H' r' → Mv e G' H' r' := fun {G' H' r'} k => by
      have := Mv.trans (rest := []) (by rw [List.append_nil]; exact m1) k
      rwa [List.append_nil] at this
    refine h ⟨G1, H1, _⟩ (eCau tbl W) (fun C P r' G' H' d v f m2 hd pv => ?_) G1 H1 σ m1.self (l.mono g1) _ fun v G' H' P r' f m2 g2 pv => ?_
    · obtain ⟨z, d', hm, k, f'⟩ := hΨ C P r' f
      refine ⟨C, z, d, v, hm, rfl, rfl, hd, (by decide : 2 ≤ sizeLine), fun p hp => ?_⟩
      exact w _ _ _ _ r' f' ((back m2).new hp) ((g1.trans m2.gg).trans (same_new (m2.sub.free hp))) (dq_pair (m2.sub.free hp) (k _ _ pv))
    · obtain ⟨d', k, f'⟩ := hΦ P r' f
      refine ⟨(by decide : 2 ≤ sizeLine), fun p hp => ?_⟩
      exact w _ _ _ _ r' f' ((back m2).new hp) ((g1.trans m2.gg).trans (same_new (m2.sub.free hp))) (dq_pair (m2.sub.free hp) (k _ _ pv))
end
/-! ### the keeper -/
section
variable (A : Ad) (K : PySem.W.Frag) (cs : Cs) (Pp : Pr) (t n : Int) (k1 : List (Key × Pr))
def pieceB : PyData → Bool := intB fun i => decide (1 ≤ i) && decide (i ≤ 64)
def keP : List Pr := [rSta A K cs Pp t n k1, rInt 0, rInt 0, rInt 0]
def cKee : Co := cOb A.c_Keeper nsKeeper (keP A K cs Pp t n k1)
def S_Keep_init : SpecR := fun Ps r Φ Ψ => ∃ (a : Addr) (cs : Cs) (d : PyData), Ps = [rAt a, rTq (pairsP K (csP cs)), rDq K d] ∧ CsGood cs ∧ r = [(a, cOb A.c_Keeper [] [])] ∧ (Φ = fun P r' => P = rNon ∧ pieceB d = true ∧ r' = [(a, cKee A K cs (rDq K d) 0 0 [])]) ∧ Ψ = fun C P r' => C = A.c_BadPiece ∧ P = rDq K d ∧ pieceB d = false ∧ r' = [(a, cOb A.c_Keeper [] [])]
def S_Kwait : SpecR := fun Ps r Φ Ψ => ∃ (a : Addr) (cs : Cs) (Pp : Pr) (t n : Int) (k1 : List (Key × Pr)) (d : PyData), Ps = [rAt a, rDq K d] ∧ CsOk cs ∧ r = [(a, cKee A K cs Pp t n k1)] ∧
  (Φ = fun P r' => ∃ i : Int, d = .int i ∧ (1 ≤ i ∧ i ≤ 1000) ∧ P = rNon ∧ r' = [(a, cKee A K cs Pp (t + i) n k1)]) ∧ Ψ = fun C P r' => C = A.c_BadCount ∧ P = rDq K d ∧ waitB d = false ∧ r' = [(a, cKee A K cs Pp t n k1)]
def askP (A : Ad) (K : PySem.W.Frag) (dc : PyData) (t : Int) (sv : Sv) (dO : PyData) : Pr := rTs K [rDq K dc, rInt t, rSv A K sv, rDq K dO]
def S_Kask : SpecR := fun Ps r Φ Ψ => ∃ (a : Addr) (cs : Cs) (Pp : Pr) (t n : Int) (k1 : List (Key × Pr)) (dc : PyData) (sv : Sv) (dO : PyData), Ps = [rAt a, rDq K dc, rSv A K sv, rDq K dO] ∧ CsOk cs ∧ k1.length < 1000 ∧ (∀ z, dO = .str z → z.length ≤ sizeLine) ∧ r = [(a, cKee A K cs Pp t n k1)] ∧
  (Φ = fun P r' => (copyB cs dc = true ∧ spB sv = true ∧ onlyB dO = true) ∧ P = rInt n ∧ r' = [(a, cKee A K cs Pp (t + 1) (n + 1) (putP k1 (.inl n) (askP A K dc (t + 1) sv dO)))]) ∧
  Ψ = fun C P r' => r' = [(a, cKee A K cs Pp t n k1)] ∧ ((C = A.c_NoCopy ∧ P = rDq K dc ∧ copyB cs dc = false) ∨ (C = A.c_BadSpans ∧ P = rSv A K sv ∧ copyB cs dc = true ∧ spB sv = false) ∨ (C = A.c_BadWord ∧ P = rDq K dO ∧ copyB cs dc = true ∧ spB sv = true ∧ onlyB dO = false))
def S_Klost : SpecR := fun Ps r Φ Ψ => ∃ (a : Addr) (cs : Cs) (Pp : Pr) (t n : Int) (k1 : List (Key × Pr)) (d : PyData), Ps = [rAt a, rDq K d] ∧ CsOk cs ∧ r = [(a, cKee A K cs Pp t n k1)] ∧
  (Φ = fun P r' => ∃ i : Int, d = .int i ∧ (valP k1 (.inl i)).isSome = true ∧ P = rNon ∧ r' = [(a, cKee A K cs Pp (t + 1) n (dropP k1 (.inl i)))]) ∧ Ψ = fun C P r' => C = A.c_NoAsk ∧ P = rDq K d ∧ askB k1 d = false ∧ r' = [(a, cKee A K cs Pp t n k1)]
def S_Kget (R : Cs → Pr → Int → Int → List (Key × Pr) → Pr → Prop) : Spec := fun Ps r Φ => ∃ (a : Addr) (cs : Cs) (Pp : Pr) (t n : Int) (k1 : List (Key × Pr)) (P0 : Pr), Ps = [rAt a] ∧ R cs Pp t n k1 P0 ∧ r = [(a, cKee A K cs Pp t n k1)] ∧ Φ = fun P r' => P = P0 ∧ r' = [(a, cKee A K cs Pp t n k1)]
end
end FL

namespace FL
open PySem PySem.Spec PyProof.Rows L2 StX FN FT FS FZ
open S1 (Dq DqA rSortedTx cr_sortedTx tLamC Chg tMethN rReprQ call_reprQ)
def isT : PyData → Bool
  | .tuple _ => true
  | _ => false
theorem kT {K : PySem.W.Frag} : ∀ d : PyData, PySem.W.kitOne K (.type (tyD d)) (.type "tuple") = some (isT d)
  | .none => kit_ty (show kitB "NoneType" "tuple" = some false by decide +kernel)
  | .bool _ => kit_ty (show kitB "bool" "tuple" = some false by decide +kernel)
  | .int _ => kit_ty (show kitB "int" "tuple" = some false by decide +kernel)
  | .str _ => kit_ty (show kitB "str" "tuple" = some false by decide +kernel)
  | .list _ => kit_ty (show kitB "list" "tuple" = some false by decide +kernel)
  | .tuple _ => kit_ty (show kitB "tuple" "tuple" = some true by decide +kernel)
  | .dict _ => kit_ty (show kitB "dict" "tuple" = some false by decide +kernel)
section
variable {s s' s1 s2 : Sls} {r r' r1 r2 r3 rc rest pre post : Rs} {ta tb te tv td : TE} {t tk : TA} {P Q R : Pr} {K : PySem.W.Frag} {Ps Qs Zs : List Pr} {e : Ent} {po : Po} {ts us : TS} {i j : Int}
/-- three comparisons in a row -/
theorem ev_chain3 {f f' f2 : R2} {k l : Int} {b b' b2 : Bool} (ha : Ev s r ta (rInt i) r) (hb : Ev s r tb (rInt j) r) (hf : ∀ H (W : VK), W (.bl b) H → f (.int i) (.int j) H W) (hc : Ev s r tv (rInt k) r) (hf' : ∀ H (W : VK), W (.bl b') H → f' (.int j) (.int k) H W) (hd : Ev s r td (rInt l) r) (hf2 : ∀ H (W : VK), W (.bl b2) H → f2 (.int k) (.int l) H W) :
    Ev s r (S1.tChain3 f f' f2 ta tb tv td) (rBl (b && (b' && b2))) r := fun e G H σ m lo W w => ha e G H σ m lo _ fun x G1 H1 m1 g1 px => hb e G1 H1 σ m1 (lo.mono g1) _ fun y G2 H2 m2 g2 py => by
  have px : x = .int i := px
  have py : y = .int j := py
  subst px; subst py
  refine hf H2 _ ⟨b, rfl, ?_⟩
  cases b with
  | false => exact iteF (w _ G2 H2 m2 (g1.trans g2) rfl)
  | true =>
    refine iteT (hc e G2 H2 σ m2 (lo.mono (g1.trans g2)) _ fun u G3 H3 m3 g3 pu => ?_)
    have pu : u = .int k := pu
    subst pu
    refine hf' H3 _ ⟨b', rfl, ?_⟩
    cases b' with
    | false => exact iteF (w _ G3 H3 m3 (g1.trans (g2.trans g3)) rfl)
    | true =>
      refine iteT (hd e G3 H3 σ m3 (lo.mono (g1.trans (g2.trans g3))) _ fun u G4 H4 m4 g4 pu => ?_)
      have pu : u = .int l := pu
      subst pu
      exact hf2 H4 _ (w _ G4 H4 m4 (g1.trans (g2.trans (g3.trans g4))) rfl)
theorem ev_max (h : EvA s r t [rInt i, rInt j] r1) : Ev s r (tCB (fun xs H Q => ∃ i j, xs = [.int i, .int j] ∧ Q (.int (if j > i then j else i)) H) t) (rInt (if j > i then j else i)) r1 := ev_cb h fun G H vs sm al W w => by
  cases al with
  | cons a al => cases al with
    | cons b al =>
      cases al
      exact ⟨i, j, by rw [show _ = V.int i from a, show _ = V.int j from b], w _ rfl⟩
/-- pairs of whole numbers, plain tuples -/
abbrev dP (p : Int × Int) : PyData := .tuple [.int p.1, .int p.2]
def rPs (K : PySem.W.Frag) (p : Int × Int) : Pr := ⟨fun G v => ∃ tt, v = .ref tt ∧ G tt = some (.tup [.int p.1, .int p.2]), fun k ⟨tt, e, h⟩ => ⟨tt, e, k _ _ h⟩⟩
theorem rps_ts {p : Int × Int} : ∀ (G : Hp) (v : V), (rPs K p).p G v → (rTs K [rInt p.1, rInt p.2]).p G v := fun G v ⟨tt, e, h⟩ => ⟨by show 2 ≤ sizeLine; decide, tt, _, e, SqT.of h, .cons rfl (.cons rfl .nil)⟩
theorem rps_dq {p : Int × Int} : ∀ (G : Hp) (v : V), (rPs K p).p G v → (rDq K (dP p)).p G v := fun G v ⟨tt, e, h⟩ => by
  subst e
  exact .tup (SqT.of h) (.cons (.int _) (.cons (.int _) .nil))
theorem ev_tupPs {p : Int × Int} (ha : Ev s r ta (rInt p.1) r1) (hb : Ev s r1 tb (rInt p.2) r2) : Ev s r (tTup (tCons ta (tCons tb tNil))) (rPs K p) r2 := fun e G H σ m k W w => ea_cons ha (ea_cons hb ea_nil) e G H σ m k _ fun vs G1 H1 m1 g1 pvs => by
  cases pvs with
  | cons a q => cases q with
    | cons b q =>
      cases q
      have a : _ = V.int p.1 := a
      have b : _ = V.int p.2 := b
      subst a b
      exact ⟨by show 2 ≤ sizeLine; decide, fun p hp => w _ (upd G1 p (.tup _)) _ (m1.new hp) (g1.trans (same_new (m1.sub.free hp))) ⟨p, rfl, upd_same⟩⟩
theorem bg_ps {i j : Nat} {p : Int × Int} : Bg (gTup K 2 (gCons (gName i) (gCons (gName j) gNil))) (rPs K p) s ((s.set i (some (rInt p.1))).set j (some (rInt p.2))) [i, j] := fun G H σ v pv sm l Q q => bg2 G H σ v (rps_ts G v pv) sm l Q q
def kP (v : V → Option (Int × Int)) : V → Int × Int := fun x => (v x).getD (0, 0)
theorem ps_tups {G : Hp} : ∀ {xs : List V} {ps : List (Int × Int)}, All2 G xs (ps.map (rPs K)) → ∀ x ∈ xs, ∃ (p : Int × Int) (tt : Addr), x = V.ref tt ∧ G tt = some (.tup [.int p.1, .int p.2])
  | _, [], .nil, x, hx => nomatch hx
  | _, p :: ps, .cons b al, x, hx => by
    rcases List.mem_cons.mp hx with rfl | hx
    · obtain ⟨tt, e, h⟩ := b
      exact ⟨p, tt, e, h⟩
    · exact ps_tups al x hx
theorem ps_back {G : Hp} {k : V → Int × Int} : ∀ {ys : List V}, (∀ y ∈ ys, ∃ tt : Addr, y = V.ref tt ∧ G tt = some (.tup [.int (k y).1, .int (k y).2])) → All2 G ys ((ys.map k).map (rPs K))
  | [], _ => .nil
  | y :: ys, h => .cons (h y List.mem_cons_self) (ps_back fun z hz => h z (List.mem_cons_of_mem _ hz))
/-- sorted(pairs): some sequence of pairs of the same number -/
theorem ex_sortedPs {ps : List (Int × Int)} (h : EvA s r t [rTs K (ps.map (rPs K))] r1) : EvX s r (tCB (S1.rSortedPs K) t) (fun P r' => ∃ x : {qs : List (Int × Int) // qs.length = ps.length}, P = rLs K (x.1.map (rPs K)) ∧ r' = r1) := fun e G H σ m l W w => h e G H σ m l _ fun vs G1 H1 m1 g1 al => by
  cases al with
  | cons a1 al =>
    cases al
    obtain ⟨z, a, xs, rfl, hs, al⟩ := a1
    have tups := ps_tups al
    have ch : ∀ x : V, ∃ p : Int × Int, x ∈ xs → ∃ tt : Addr, x = V.ref tt ∧ G1 tt = some (.tup [.int p.1, .int p.2]) := fun x => by
      by_cases hx : x ∈ xs
      · obtain ⟨p, tt, e1, e2⟩ := tups x hx
        exact ⟨p, fun _ => ⟨tt, e1, e2⟩⟩
      · exact ⟨(0, 0), fun h => absurd h hx⟩
    obtain ⟨k, hk⟩ := Classical.axiomOfChoice ch
    refine ⟨a, xs, k, rfl, .inr (SqT.ext hs m1.sub), fun x hx => ?_, fun ys p _ st hp => ?_⟩
    · obtain ⟨tt, e1, e2⟩ := hk x hx
      exact ⟨tt, e1, m1.sub _ _ e2⟩
    · have gn := same_new (o := .lst ys) (m1.sub.free hp)
      have hl : (ys.map k).length = ps.length := by rw [List.length_map, st.perm.length_eq, al.len, List.length_map]
      refine w _ (upd G1 p (.lst ys)) _ _ _ ⟨⟨ys.map k, hl⟩, rfl, rfl⟩ (m1.new hp) (g1.trans gn) ⟨by rw [List.length_map, hl]; rw [List.length_map] at z; exact z, p, ys, rfl, SqL.of upd_same, ps_back fun y hy => ?_⟩
      obtain ⟨tt, e1, e2⟩ := hk y (st.perm.mem_iff.mp hy)
      exact ⟨tt, e1, gn _ _ e2⟩
end
/-! ### a walk over what an expression makes -/
def EvIX (s : Sls) (r : Rs) (wi : TI) (Φ : List Pr → Rs → Prop) : Prop :=
  ∀ e G H σ, Mv e G H r → SlOk G σ s → ∀ R : It → Hp → Prop, (∀ J G' H' Ps r', Φ Ps r' → Mv e G' H' r' → Same G G' → Wk J G' Ps → R J H') → wi σ H R
section
variable {s s' s1 s2 : Sls} {r r' r1 r2 : Rs} {te : TE} {K : PySem.W.Frag} {e : Ent} {po : Po} {ts : TS} {wi : TI} {g : TG}
theorem eix_list {ι : Sort _} {L : ι → List Pr} {ρ : ι → Rs} (h : EvX s r te (fun P r' => ∃ x, P = rLs K (L x) ∧ r' = ρ x)) : EvIX s r (iList K te) (fun Ps r' => ∃ x, Ps = L x ∧ r' = ρ x) := fun e G H σ m l R q => h e G H σ m l _ fun v G1 H1 P r' ⟨x, e1, e2⟩ m1 g1 pv => by
  subst e1 e2
  obtain ⟨z, a, vs, ev, hs, al⟩ := pv
  refine ⟨a, ev, ⟨vs, m1.sub.seq hs⟩, q _ G1 H1 _ _ ⟨x, rfl, rfl⟩ m1 g1 ⟨z, fun G2 H2 i s1 s2 hi => ⟨vs, vs[i]'(by rw [al.len]; exact hi), (s1.trans s2).seq hs, List.getElem?_eq_getElem _⟩, fun G2 H2 s1 s2 => ⟨vs, (s1.trans s2).seq hs, by rw [al.len]; exact Nat.le_refl _⟩, fun G2 H2 i y H3 s1 s2 ⟨e1, yy⟩ hi => ?_⟩⟩
  subst e1
  obtain ⟨P, h1, h2⟩ := al.get (yy vs ((s1.trans s2).seq hs))
  exact ⟨G2, P, .rfl, h1, P.m s1 h2⟩
theorem ok_forX {ι : Sort _} {L : ι → List Pr} {ρ : ι → Rs} (hi : EvIX s r wi (fun Ps r' => ∃ x, Ps = L x ∧ r' = ρ x)) (inv : ι → Nat → Sls → Rs → Prop) (h0 : ∀ x, inv x 0 s (ρ x))
    (ht : ∀ x, (L x).length ≤ sizeLine → ∀ i P s' r', (L x)[i]? = some P → inv x i s' r' → ∃ s2 vs, Bg g P s' s2 vs ∧ Ok e s2 r' ts { po with nx := inv x (i + 1), ct := inv x (i + 1), bk := po.nx })
    (hd : ∀ x s' r', inv x (L x).length s' r' → po.nx s' r') : Ok e s r (tFor wi g ts) po := fun G H σ m l D d => hi e G H σ m l _ fun J G1 H1 Ps r1 ⟨x, e1, e2⟩ m1 g1 wk => by
  subst e1 e2
  refine ⟨fun i k σ H => k = (L x).length - i ∧ i ≤ (L x).length ∧ ∃ s' r' G, inv x i s' r' ∧ Mv e G H r' ∧ Same G1 G ∧ SlOk G σ s', ⟨_, rfl, Nat.zero_le _, s, _, G1, h0 x, m1, Same.refl _, l.mono g1⟩, ?_⟩
  rintro i k σ2 H2 ⟨rfl, hle, s', r', G2, iv, m2, sg, l2⟩
  by_cases hlt : i < (L x).length
  · refine .inr ⟨wk.go G2 H2 i sg m2.sub hlt, fun σ' H' => ∃ s' r' G, inv x (i + 1) s' r' ∧ Mv e G H' r' ∧ Same G1 G ∧ SlOk G σ' s', fun σ' H' w => ⟨_, by omega, rfl, hlt, w⟩, fun y H3 yy => ?_⟩
    obtain ⟨G3, P, ⟨gg, pu⟩, hP, px⟩ := wk.yld G2 H2 i y H3 sg m2.sub yy hlt
    obtain ⟨s2, vs, bg, ok⟩ := ht x wk.z i P s' r' hP iv
    have m3 := pu e r' m2
    refine bg G3 H3 σ2 y px m3.sub (l2.mono gg) _ fun σ3 l3 _ _ => ok G3 H3 σ3 m3 l3 _ ⟨fun s r G4 σ H a b c f => ⟨s, r, G4, a, b, sg.trans (gg.trans c), f⟩, fun R r G4 v H a b c => d.rt R r G4 v H a b (g1.trans (sg.trans (gg.trans c))), fun s r G4 σ H a b c f => d.nx s r G4 σ H a b (g1.trans (sg.trans (gg.trans c))) f, fun s r G4 σ H a b c f => ⟨s, r, G4, a, b, sg.trans (gg.trans c), f⟩⟩
  · have e1 : i = (L x).length := by omega
    subst e1
    exact .inl ⟨wk.stop G2 H2 sg m2.sub, d.nx _ _ _ _ _ (hd x _ _ iv) m2 (g1.trans sg) l2⟩
/-- o.f = e for what e makes, a new attribute -/
theorem ok_seqFN {ι : Sort _} {F : ι → Pr} {ρ : ι → Rs} {C a : Addr} {ns all : List Str} {Qs : List Pr} {f : Str} {tv ta : TE} {us : TS} (c : ClsF K C all) (hv : EvX s r tv (fun P r' => ∃ x, P = F x ∧ r' = ρ x)) (pre po' : ι → Rs) (ho : ∀ x, Ev s (ρ x) ta (rAt a) (pre x ++ (a, cOb C ns Qs) :: po' x))
    (k : ∀ x, Ok e s (pre x ++ (a, cOb C (ns ++ [f]) (Qs ++ [F x])) :: po' x) us po) (hl : look ns f = none := by decide +kernel) (ha : decide (f ∈ all) = true := by decide +kernel) (hz : decide (ns.length < 1000) = true := by decide +kernel) : Ok e s r (tSeq (sFld K ta tv f) us) po := fun G H σ m l D d => hv e G H σ m l _ fun y G1 H1 P r' ⟨x, e1, e2⟩ m1 g1 py => by
  subst e1 e2
  refine ho x e G1 H1 σ m1 (l.mono g1) _ fun z G2 H2 m2 g2 px => ?_
  obtain ⟨o, hO, ⟨dx, vs, rfl, zl, al⟩⟩ := m2.at_ (List.mem_append_right _ List.mem_cons_self)
  refine ⟨a, C, dx, _, px, hO, c.cl, c.na f (of_decide_eq_true ha), by rw [List.length_zip]; have := of_decide_eq_true hz; omega, ?_⟩
  rw [put_no hl zl]
  exact k x G2 _ σ (m2.putAt ⟨dx, _, rfl, by rw [List.length_append, List.length_append, zl]; rfl, al.app (.cons (Pr.m _ g2 py) .nil)⟩) (l.mono (g1.trans g2)) D (d.mono (g1.trans g2))
end
/-! ### spans -/
def okP (p : Int × Int) : Prop := 0 ≤ p.1 ∧ p.1 < p.2 ∧ p.2 ≤ 1000000
abbrev nsSpans : List Str := ["pairs", "many_positions"]
def S_united (K : PySem.W.Frag) : Spec := fun Ps r Φ => ∃ ps : List (Int × Int), Ps = [rTs K (ps.map (rPs K))] ∧ ps.length ≤ 1000 ∧ r = [] ∧ Φ = fun P r' => ∃ qs : List (Int × Int), P = rTs K (qs.map (rPs K)) ∧ r' = []
def S_Spans_init (A : Ad) (K : PySem.W.Frag) : SpecR := fun Ps r Φ Ψ => ∃ (a : Addr) (ps : List (Int × Int)), Ps = [rAt a, rTs K (ps.map (rPs K))] ∧ ps.length ≤ 1000 ∧ (∀ p ∈ ps, okP p) ∧ r = [(a, cOb A.c_Spans [] [])] ∧ (Φ = fun P r' => P = rNon ∧ ∃ Qs, r' = [(a, cOb A.c_Spans nsSpans Qs)]) ∧ Ψ = fun _ _ _ => False
end FL

/-! what is wished of an expression's ends, by data: rules that are used backwards. -/
namespace FL
open PySem PySem.Spec PyProof.Rows L2 StX FN FT FS FZ
open S1 (Dq DqA rSortedTx cr_sortedTx tLamC Chg tMethN rReprQ call_reprQ)
def EvXA (s : Sls) (r : Rs) (ta : TA) (Ω : List Pr → Rs → Prop) : Prop :=
  ∀ e G H σ, Mv e G H r → SlOk G σ s → ∀ Q : List V → Hp → Prop, (∀ vs G' H' Ps r', Ω Ps r' → Mv e G' H' r' → Same G G' → All2 G' vs Ps → Q vs H') → ta σ H Q
def EvXT (s : Sls) (r : Rs) (tt : TT) (Ω : Bool → Rs → Prop) : Prop :=
  ∀ e G H σ, Mv e G H r → SlOk G σ s → ∀ Q : Bool → Hp → Prop, (∀ b G' H' r', Ω b r' → Mv e G' H' r' → Same G G' → Q b H') → tt σ H Q
section
variable {s s' s1 s2 : Sls} {r r' r1 r2 r3 rc rest pre post : Rs} {ta tb te tv td : TE} {t tr tk : TA} {c c2 : TT} {P Q R : Pr} {K : PySem.W.Frag} {Ω Φ : Pr → Rs → Prop} {Θ : Bool → Rs → Prop} {Ps Qs Zs : List Pr} {e : Ent} {po : Po} {ts us : TS} {i j : Int} {E : XK} {S : Spec} {g : TG} {wi : TI} {vs : List Nat} {C a : Addr} {ns all : List Str} {nm f : Str}
theorem ex_of (h : Ev s r te P r1) (k : Ω P r1) : EvX s r te Ω := h.x.imp fun P' r' ⟨a, b⟩ => by subst a; subst b; exact k
theorem exa_of (h : EvA s r t Ps r1) {Ω : List Pr → Rs → Prop} (k : Ω Ps r1) : EvXA s r t Ω := fun e G H σ m l W w => h e G H σ m l W fun vs G1 H1 m1 g1 al => w vs G1 H1 Ps r1 k m1 g1 al
theorem exa_nil {Ω : List Pr → Rs → Prop} (k : Ω [] r) : EvXA s r tNil Ω := exa_of ea_nil k
theorem exa_cons {Ω : List Pr → Rs → Prop} (h : EvX s r ta (fun P r1 => EvXA s r1 tr fun Ps r2 => Ω (P :: Ps) r2)) : EvXA s r (tCons ta tr) Ω := fun e G H σ m l W w => h e G H σ m l _ fun v G1 H1 P r1 k m1 g1 pv => k e G1 H1 σ m1 (l.mono g1) _ fun vs G2 H2 Ps r2 k2 m2 g2 al => w _ G2 H2 _ r2 k2 m2 (g1.trans g2) (.cons (P.m g2 pv) al)
theorem exa_cons1 {Ω : List Pr → Rs → Prop} (h : Ev s r ta P r1) (k : EvXA s r1 tr fun Ps r2 => Ω (P :: Ps) r2) : EvXA s r (tCons ta tr) Ω := exa_cons (ex_of h k)
theorem ext_of {b : Bool} (h : EvT s r c b r1) (k : Θ b r1) : EvXT s r c Θ := fun e G H σ m l W w => h e G H σ m l W fun G1 H1 m1 g1 => w b G1 H1 r1 k m1 g1
/-- a call -/
theorem ex_callK (rc rest : Rs) (h : EvA s r t Ps (rc ++ rest)) (hS : S Ps rc Φ) (k : ∀ P r', Φ P r' → Ω P (r' ++ rest)) : EvX s r (tCall (spM S) [] E t) Ω := (ex_call h hS).imp fun P r' ⟨r1, f, e⟩ => by rw [e]; exact k _ _ f
theorem ex_callA (h : EvXA s r t (fun Ps r1 => ∃ rc rest Φ, r1.Perm (rc ++ rest) ∧ S Ps rc Φ ∧ ∀ P r', Φ P r' → Ω P (r' ++ rest))) : EvX s r (tCall (spM S) [] E t) Ω := fun e G H σ m l W w => h e G H σ m l _ fun vs G1 H1 Ps r1 ⟨rc, rest, Φ, pm, hS, k⟩ m1 g1 al => by
  show spM S (vs ++ []) H1 W E
  rw [List.append_nil]
  have m1 := m1.perm pm
  exact ⟨G1, Ps, rc, Φ, hS, al, m1.drop.self, fun v G2 H2 P r' f m2 pv => w v G2 H2 P _ (k _ _ f) (m1.trans m2) (g1.trans m2.gg) pv⟩
/-- operators by values, what comes ahead of them any -/
theorem ex_op2 {f : R2} (h : EvX s r ta fun P r1 => EvX s r1 tb fun Q r2 => ∃ R, RVp f P Q R ∧ Ω R r2) : EvX s r (tOp f ta tb) Ω := fun e G H σ m l W w => h e G H σ m l _ fun x G1 H1 P r1 k m1 g1 px => k e G1 H1 σ m1 (l.mono g1) _ fun y G2 H2 Q r2 ⟨R, hr, k2⟩ m2 g2 py =>
  hr G2 H2 x y m2.sub (P.m g2 px) py W fun v pv => w v G2 H2 R r2 k2 m2 (g1.trans g2) pv
theorem rv_add : RVp (rI0 fun i j => .int (i + j)) (rInt i) (rInt j) (rInt (i + j)) := fun G H x y _ hx hy W w => ⟨i, j, hx, hy, w _ rfl⟩
theorem rv_lt : RVp (rI0 fun i j => .bl (decide (i < j))) (rInt i) (rInt j) (rBl (decide (i < j))) := fun G H x y _ hx hy W w => ⟨i, j, hx, hy, w _ rfl⟩
theorem rv_eqI : RVp rEq (rInt i) (rInt j) (rBl (decide (i = j))) := fun G H x y _ hx hy W w => by
  rw [show x = .int i from hx, show y = .int j from hy]
  refine ⟨rfl, w _ ?_⟩
  show V.bl _ = V.bl _
  congr 1
  exact decide_eq_decide.mpr ⟨fun h => V.int.inj h, fun h => h ▸ rfl⟩
theorem rv_ixL (h0 : 0 ≤ i) (h : Ps[i.toNat]? = some P) : RVp (rIxL K) (rLs K Ps) (rInt i) P := fun G H x y sm ⟨_, a, vs, ex, hs, al⟩ py W w => by
  obtain ⟨v, hv, pv⟩ := al.get' h
  exact ⟨a, vs, i, v, ex, py, sm.seq hs, atI_nn h0 hv, w v pv⟩
theorem rv_imp {f : R2} {P' Q' R' : Pr} (h : RVp f P Q R) (hp : ∀ G v, P'.p G v → P.p G v) (hq : ∀ G v, Q'.p G v → Q.p G v) (hr : ∀ G v, R.p G v → R'.p G v) : RVp f P' Q' R' := fun G H x y sm px py W w => h G H x y sm (hp _ _ px) (hq _ _ py) W fun v pv => w v (hr _ _ pv)
theorem lp_ls : ∀ (G : Hp) (v : V), (rLp Ps).p G v → (rLs K Ps).p G v := fun G v ⟨z, a, vs, e, h, q⟩ => ⟨z, a, vs, e, SqL.of h, q⟩
/-- tests -/
theorem ext_test (h : EvX s r te fun P r1 => ∃ b, P = rBl b ∧ Θ b r1) : EvXT s r (tTest te) Θ := fun e G H σ m l W w => h e G H σ m l _ fun v G1 H1 P r1 ⟨b, e1, k⟩ m1 g1 pv => by
  subst e1
  exact ⟨b, pv, w b G1 H1 r1 k m1 g1⟩
theorem ext_B (h : EvX s r te fun P r1 => ∃ b, P = rBl b ∧ Θ b r1) : EvXT s r (tB te) Θ := fun e G H σ m l W w => h e G H σ m l _ fun v G1 H1 P r1 ⟨b, e1, k⟩ m1 g1 pv => by
  subst e1
  exact ⟨b, pv, w b G1 H1 r1 k m1 g1⟩
theorem ext_not (h : EvXT s r c fun b r1 => Θ (!b) r1) : EvXT s r (tNot c) Θ := fun e G H σ m l W w => h e G H σ m l _ fun b G1 H1 r1 k m1 g1 => w _ G1 H1 r1 k m1 g1
theorem ext_or (h : EvXT s r c fun b r1 => (b = true → Θ true r1) ∧ (b = false → EvXT s r1 c2 Θ)) : EvXT s r (tOr c c2) Θ := fun e G H σ m l W w => h e G H σ m l _ fun b G1 H1 r1 ⟨k1, k2⟩ m1 g1 => by
  cases b with
  | true => exact w true G1 H1 r1 (k1 rfl) m1 g1
  | false => exact k2 rfl e G1 H1 σ m1 (l.mono g1) _ fun b G2 H2 r2 k m2 g2 => w b G2 H2 r2 k m2 (g1.trans g2)
theorem ext_and (h : EvXT s r c fun b r1 => (b = false → Θ false r1) ∧ (b = true → EvXT s r1 c2 Θ)) : EvXT s r (tAnd c c2) Θ := fun e G H σ m l W w => h e G H σ m l _ fun b G1 H1 r1 ⟨k1, k2⟩ m1 g1 => by
  cases b with
  | false => exact w false G1 H1 r1 (k1 rfl) m1 g1
  | true => exact k2 rfl e G1 H1 σ m1 (l.mono g1) _ fun b G2 H2 r2 k m2 g2 => w b G2 H2 r2 k m2 (g1.trans g2)
theorem ex_ifK (h : EvXT s r c fun b r1 => (b = true → EvX s r1 ta Ω) ∧ (b = false → EvX s r1 tb Ω)) : EvX s r (tIf c ta tb) Ω := fun e G H σ m l W w => h e G H σ m l _ fun b G1 H1 r1 ⟨k1, k2⟩ m1 g1 => by
  cases b with
  | true => exact k1 rfl e G1 H1 σ m1 (l.mono g1) _ fun v G2 H2 P r2 k m2 g2 pv => w v G2 H2 P r2 k m2 (g1.trans g2) pv
  | false => exact k2 rfl e G1 H1 σ m1 (l.mono g1) _ fun v G2 H2 P r2 k m2 g2 pv => w v G2 H2 P r2 k m2 (g1.trans g2) pv
/-- tuples, lists -/
theorem ex_tupK (K : PySem.W.Frag) (h : EvXA s r t fun Ps r1 => Ps.length ≤ 1000 ∧ Ω (rTs K Ps) r1) : EvX s r (tTup t) Ω := fun e G H σ m k W w =>
  h e G H σ m k _ fun vs G1 H1 Ps r1 ⟨hz, kk⟩ m1 g1 pvs => ⟨by rw [pvs.len]; exact Nat.le_trans hz (by decide), fun p hp => w _ (upd G1 p (.tup vs)) _ _ r1 kk (m1.new hp) (g1.trans (same_new (m1.sub.free hp))) ⟨Nat.le_trans hz (by decide), p, vs, rfl, SqT.of upd_same, pvs.mono (same_new (m1.sub.free hp))⟩⟩
/-- plain tuples, as they stand -/
def rTp (Ps : List Pr) : Pr := ⟨fun G v => Ps.length ≤ sizeLine ∧ ∃ a vs, v = .ref a ∧ G a = some (.tup vs) ∧ All2 G vs Ps, fun k ⟨z, a, vs, e, h, q⟩ => ⟨z, a, vs, e, k _ _ h, q.mono k⟩⟩
theorem tp_ts : ∀ (G : Hp) (v : V), (rTp Ps).p G v → (rTs K Ps).p G v := fun G v ⟨z, a, vs, e, h, q⟩ => ⟨z, a, vs, e, SqT.of h, q⟩
theorem ex_tupP (h : EvXA s r t fun Ps r1 => Ps.length ≤ 1000 ∧ Ω (rTp Ps) r1) : EvX s r (tTup t) Ω := fun e G H σ m k W w =>
  h e G H σ m k _ fun vs G1 H1 Ps r1 ⟨hz, kk⟩ m1 g1 pvs => ⟨by rw [pvs.len]; exact Nat.le_trans hz (by decide), fun p hp => w _ (upd G1 p (.tup vs)) _ _ r1 kk (m1.new hp) (g1.trans (same_new (m1.sub.free hp))) ⟨Nat.le_trans hz (by decide), p, vs, rfl, upd_same, pvs.mono (same_new (m1.sub.free hp))⟩⟩
/-- statements -/
theorem ok_asgK {i : Nat} (h : EvX s r te fun P r1 => Ok e (s.set i (some P)) r1 us po) : Ok e s r (tSeq (tAsg te (gName i)) us) po := fun G H σ m l D d => h e G H σ m l _ fun v G1 H1 P r1 k m1 g1 pv => k G1 H1 _ m1 ((l.mono g1).set i pv) D (d.mono g1)
theorem ok_asgGK {vs : List Nat} (h : EvX s r te fun P r1 => ∃ s1, Bg g P s s1 vs ∧ Ok e s1 r1 us po) : Ok e s r (tSeq (tAsg te g) us) po := fun G H σ m l D d => h e G H σ m l _ fun v G1 H1 P r1 ⟨s1, b, k⟩ m1 g1 pv => b G1 H1 σ v pv m1.sub (l.mono g1) _ fun σ' l' _ _ => k G1 H1 σ' m1 l' D (d.mono g1)
theorem ok_tgK (h : EvX s r te fun P r1 => ∃ s2 r2, Tg K g P s r1 s2 r2 ∧ Ok e s2 r2 us po) : Ok e s r (tSeq (tAsg te g) us) po := fun G H σ m l D d => h e G H σ m l _ fun v G1 H1 P r1 ⟨s2, r2, b, k⟩ m1 g1 pv => b e G1 H1 σ v m1 (l.mono g1) pv _ fun σ' G2 H2 m2 g2 l2 => k G2 H2 σ' m2 l2 D (d.mono (g1.trans g2))
theorem ok_dropK (h : EvX s r te fun P r1 => Ok e s r1 us po) : Ok e s r (tSeq (tDrop te) us) po := fun G H σ m l D d => h e G H σ m l _ fun v G1 H1 P r1 k m1 g1 pv => k G1 H1 σ m1 (l.mono g1) D (d.mono g1)
theorem ok_retK (h : EvX s r te po.rt) : Ok e s r (tRet te) po := ok_retX h fun _ _ k => k
theorem ok_ifK {ws : TS} (h : EvXT s r c fun b r1 => (b = true → Ok e s r1 (tSeq ts ws) po) ∧ (b = false → Ok e s r1 (tSeq us ws) po)) : Ok e s r (tSeq (tIfS c ts us) ws) po := fun G H σ m l D d => h e G H σ m l _ fun b G1 H1 r1 ⟨k1, k2⟩ m1 g1 => by
  cases b with
  | true => exact k1 rfl G1 H1 σ m1 (l.mono g1) D (d.mono g1)
  | false => exact k2 rfl G1 H1 σ m1 (l.mono g1) D (d.mono g1)
theorem ok_ifK1 (h : EvXT s r c fun b r1 => (b = true → Ok e s r1 ts po) ∧ (b = false → Ok e s r1 us po)) : Ok e s r (tIfS c ts us) po := fun G H σ m l D d => h e G H σ m l _ fun b G1 H1 r1 ⟨k1, k2⟩ m1 g1 => by
  cases b with
  | true => exact k1 rfl G1 H1 σ m1 (l.mono g1) D (d.mono g1)
  | false => exact k2 rfl G1 H1 σ m1 (l.mono g1) D (d.mono g1)
theorem ok_parK {i j : Nat} (h : EvXA s r t fun Ps r1 => ∃ P Q, Ps = [P, Q] ∧ Ok e ((s.set i (some P)).set j (some Q)) r1 us po) : Ok e s r (tSeq (tPar i j t) us) po := fun G H σ m l D d => h e G H σ m l _ fun vs G1 H1 Ps r1 ⟨P, Q, e1, k⟩ m1 g1 pv => by
  subst e1
  cases pv with
  | cons a t =>
    cases t with
    | cons b t =>
      cases t
      exact ⟨_, _, rfl, k G1 H1 _ m1 (((l.mono g1).set i a).set j b) D (d.mono g1)⟩
theorem ok_nextSeq (k : Ok e s r us po) : Ok e s r (tSeq tNext us) po := ok_seq1 (ok_next ⟨rfl, rfl⟩) k
theorem ok_retSeq (h : EvX s r te po.rt) : Ok e s r (tSeq (tRet te) us) po := ok_seq (fun _ _ => False) (ok_retX h fun _ _ k => k) fun _ _ f => f.elim
/-- xs.append(e) -/
theorem ok_appK {a : Addr} {Ps : List Pr} (ha : Ev s r ta (rAt a) r1) (h1 : (a, cLs Ps) ∈ r1) (h : EvX s r1 te fun P r2 => ∃ pre post, r2 = pre ++ (a, cLs Ps) :: post ∧ Ps.length < sizeLine ∧ po.nx s (pre ++ (a, cLs (Ps ++ [P])) :: post)) :
    Ok e s r (tDrop (tBM K "list" rAppend ta (tCons te tNil))) po := fun G H σ m l D d => ha e G H σ m l _ fun v G1 H1 m1 g1 pv => by
  obtain ⟨o1, ho1, ⟨_, vs1, rfl, _⟩⟩ := m1.at_ h1
  subst pv
  refine ⟨.inl ⟨rfl, _, SqL.of ho1⟩, h e G1 H1 σ m1 (l.mono g1) _ fun w G2 H2 P r2 ⟨pre, post, e2, hz, k⟩ m2 g2 pw => ?_⟩
  subst e2
  obtain ⟨o2, ho2, ⟨z2, vs2, rfl, al⟩⟩ := m2.at_ (List.mem_append_right _ List.mem_cons_self)
  exact ⟨a, vs2, w, rfl, rfl, ho2, by rw [al.len]; exact hz, d.nx _ _ _ _ _ k (m2.putAt (C' := cLs (Ps ++ [P])) ⟨by rw [List.length_append]; exact hz, _, rfl, al.app (.cons pw .nil)⟩) (g1.trans g2) (l.mono (g1.trans g2))⟩
theorem EvX.frame {x : Rs} (h : EvX s r te Ω) : EvX s (r ++ x) te (fun P r' => ∃ r1, Ω P r1 ∧ r' = r1 ++ x) := fun e G H σ m k Q q => by
  have m1 : Mv ⟨G, H, r⟩ G H r := m.drop.self
  exact h _ G H σ m1 k Q fun v G' H' P r1 f m2 sg hv => q v G' H' P _ ⟨r1, f, rfl⟩ (m.trans m2) sg hv
theorem EvX.front {x : Addr × Co} (h : EvX s r te Ω) : EvX s (x :: r) te (fun P r' => ∃ r1, Ω P r1 ∧ r' = x :: r1) := fun e G H σ m k Q q => (h.frame (x := [x])) e G H σ (m.perm (List.perm_append_singleton x r).symm) k Q fun v G' H' P r' ⟨r1, f, e1⟩ m2 g2 pv => by
  subst e1
  exact q v G' H' P _ ⟨r1, f, rfl⟩ (m2.perm (List.perm_append_singleton x r1)) g2 pv
theorem EvXT.frame {x : Rs} (h : EvXT s r c Θ) : EvXT s (r ++ x) c (fun P r' => ∃ r1, Θ P r1 ∧ r' = r1 ++ x) := fun e G H σ m k Q q => by
  have m1 : Mv ⟨G, H, r⟩ G H r := m.drop.self
  exact h _ G H σ m1 k Q fun v G' H' r1 f m2 sg => q v G' H' _ ⟨r1, f, rfl⟩ (m.trans m2) sg
theorem EvXT.front {x : Addr × Co} (h : EvXT s r c Θ) : EvXT s (x :: r) c (fun P r' => ∃ r1, Θ P r1 ∧ r' = x :: r1) := fun e G H σ m k Q q => (h.frame (x := [x])) e G H σ (m.perm (List.perm_append_singleton x r).symm) k Q fun v G' H' r' ⟨r1, f, e1⟩ m2 g2 => by
  subst e1
  exact q v G' H' _ ⟨r1, f, rfl⟩ (m2.perm (List.perm_append_singleton x r1)) g2
/-- [e for g in it if c] -/
theorem ex_lcX {ι : Sort _} {L : ι → List Pr} {ρ : ι → Rs} (hi : EvIX s r wi (fun Ps r' => ∃ x, Ps = L x ∧ r' = ρ x)) (inv : ι → Nat → List Pr → Rs → Prop) (h0 : ∀ x, inv x 0 [] (ρ x))
    (ht : ∀ x, (L x).length ≤ sizeLine → ∀ i P acc r', (L x)[i]? = some P → inv x i acc r' → ∃ s2 ws, Bg g P (wipeS s vs) s2 ws ∧ (∀ w ∈ ws, w ∈ vs) ∧ EvXT s2 r' c fun b r2 => (b = true → EvX s2 r2 te fun Y r3 => inv x (i + 1) (acc ++ [Y]) r3) ∧ (b = false → inv x (i + 1) acc r2))
    (k : ∀ x acc r', inv x (L x).length acc r' → Ω (rLp acc) r') : EvX s r (tLc wi g c te vs) Ω := fun e G H σ m l Q q => hi e G H σ m l _ fun J G1 H1 Ps r1 ⟨x, e1, e2⟩ m1 g1 wk => fun Dl hD => by
  subst e1 e2
  refine ⟨fun i k H => k = (L x).length - i ∧ i ≤ (L x).length ∧ ∃ acc r' G, inv x i acc r' ∧ acc.length ≤ i ∧ Mv e G H ((Dl, cLs acc) :: r') ∧ Same G1 G, ⟨_, rfl, Nat.zero_le _, [], _, G1, h0 x, Nat.zero_le _, m1.own hD ⟨Nat.zero_le _, [], rfl, .nil⟩, Same.refl _⟩, ?_⟩
  rintro i k' H2 ⟨rfl, hle, acc, r', G2, iv, hacc, m2, sg⟩
  by_cases hlt : i < (L x).length
  · refine .inr ⟨wk.go G2 H2 i sg m2.sub hlt, fun H' => ∃ acc r' G, inv x (i + 1) acc r' ∧ acc.length ≤ i + 1 ∧ Mv e G H' ((Dl, cLs acc) :: r') ∧ Same G1 G, fun H' w => ⟨_, by omega, rfl, hlt, w⟩, fun y H3 yy => ?_⟩
    obtain ⟨G3, P, ⟨gg, pu⟩, hP, px⟩ := wk.yld G2 H2 i y H3 sg m2.sub yy hlt
    obtain ⟨s2, ws, bg, hws, het⟩ := ht x wk.z i P acc r' hP iv
    have m3 := pu e _ m2
    refine bg G3 H3 (wipe σ vs) y px m3.sub ((l.mono (g1.trans (sg.trans gg))).wipe vs) _ fun σ3 l3 hl3 ag => ⟨wipe_eq (by rw [hl3, wipe_length]) (fun j hj => by rw [ag j (fun z => hj (hws j z)), wipe_out _ _ _ hj]), ?_⟩
    refine het.front e G3 H3 σ3 m3 l3 _ fun b G4 H4 r4 ⟨r2, ⟨hb1, hb2⟩, e4⟩ m4 g4 => ?_
    subst e4
    cases b with
    | true =>
      refine iteT ((hb1 rfl).front e G4 H4 σ3 m4 (l3.mono g4) _ fun v G5 H5 Y r5 ⟨r3, iv2, e5⟩ m5 g5 pv => ?_)
      subst e5
      obtain ⟨o, ho, ⟨z, vs2, rfl, al⟩⟩ := m5.at_ List.mem_cons_self
      have zl : acc.length < sizeLine := Nat.lt_of_le_of_lt hacc (Nat.lt_of_lt_of_le hlt wk.z)
      exact ⟨vs2, ho, by rw [al.len]; exact zl, acc ++ [Y], r3, G5, iv2, by rw [List.length_append]; exact Nat.succ_le_succ hacc, m5.put ⟨by rw [List.length_append]; exact zl, _, rfl, al.app (.cons pv .nil)⟩, sg.trans (gg.trans (g4.trans g5))⟩
    | false => exact iteF ⟨acc, r2, G4, hb2 rfl, Nat.le_succ_of_le hacc, m4, sg.trans (gg.trans g4)⟩
  · have e1 : i = (L x).length := by omega
    subst e1
    obtain ⟨o, ho, ⟨z, vs2, rfl, al⟩, gn, m5⟩ := m2.freeze
    exact .inl ⟨wk.stop G2 H2 sg m2.sub, q _ _ _ _ _ (k x acc r' iv) m5 (g1.trans (sg.trans (same_new gn))) ⟨z, Dl, vs2, rfl, upd_same, al.mono (same_new gn)⟩⟩
theorem eix_of (h : EvI s r wi Ps r1) : EvIX s r wi (fun Ps' r' => ∃ x : Unit, Ps' = Ps ∧ r' = r1) := fun e G H σ m l R q => h e G H σ m l R fun J G' H' m' g' wk => q J G' H' Ps r1 ⟨(), rfl, rfl⟩ m' g' wk
/-- range(n), n what an expression makes -/
theorem eix_rng {ι : Sort _} {N : ι → Nat} {ρ : ι → Rs} (h : EvXA s r t fun Ps r1 => ∃ x, Ps = [rInt (N x : Int)] ∧ N x ≤ 1000 ∧ r1 = ρ x) : EvIX s r (iRng1 t) (fun Ps r' => ∃ x, Ps = ((List.range (N x)).map fun (i : Nat) => rInt (i : Int)) ∧ r' = ρ x) := fun e G H σ m l R q => h e G H σ m l _ fun vs G1 H1 Ps r1 ⟨x, e1, hz, e2⟩ m1 g1 al => by
  subst e1 e2
  cases al with
  | cons a t =>
    cases t
    have hs : sizeLine = 16777216 := sizeLine_eq
    have wk := wk_rng (G := G1) (lo := 0) (n := N x) (by omega)
    rw [show rngP 0 (N x) = (List.range (N x)).map fun (i : Nat) => rInt (i : Int) from by unfold rngP; simp] at wk
    refine ⟨(N x : Int), by rw [show _ = V.int _ from a], by omega, by omega, q _ G1 H1 _ _ ⟨x, rfl, rfl⟩ m1 g1 ?_⟩
    exact wk
end
end FL

namespace FL
open PySem PySem.Spec PyProof.Rows L2 StX FN FT FS FZ
open S1 (Dq DqA rSortedTx cr_sortedTx tLamC Chg tMethN rReprQ call_reprQ FnG)
/-! ### defs called where no repr is under way -/
structure CalG (P : Program) (w : World) (K : PySem.W.Frag) (mg : Str → Option Value) (base : Heap) (CX : CXT) (k : Nat) (x : Str) (ps : List Str) (sp : Sp) : Prop where
  ex : ∃ f fd, FnG P w K mg base CX k f fd ps sp ∧ mg x = some (.ref f) ∧ PySem.W.keepIn K (.ref f) = true ∧ Binds K fd ps []
theorem pe_cG {X : Cx} {k m : Nat} {ps : List Str} {sp : Sp} {x : Str} {p pos : Pos} {e : Expr} {es : List Expr} {t : TA} {CX : CXT} {E : XK} (D : CalG X.prog X.w X.K X.mg X.base CX k x ps sp) (gd : X.A.guards = some []) (hx : Passes CX X E) (hr : Room m X.A) (hg : Gl X x) (ha : PA X (e :: es) t) (hk : k ≤ m := by decide) (hdb : (x == ("__debug__" : Str)) = false := by decide)
    (he : starEach (e :: es) X.env = (false, eval e X.env) :: starEach es X.env := by rfl) (hpl : (backTo pos (starEach es X.env)).any (·.1) = false := by rfl) : PE X (.Call (.Name x p) (e :: es) [] pos) (tCall sp [] E t) := by
  obtain ⟨f, fd, h1, h2, h3, h4⟩ := D.ex
  exact S1.pe_callG h1 gd (hr.mono hk) hg h2 h3 h4 hx ha hdb he hpl
/-- a def whose code object is known -/
structure FunC (K : PySem.W.Frag) (x qual : Str) (params : Arguments) (body : List Stmt) (scope : Scope) (c : Addr) (f : Addr) (fd : FuncData) : Prop where
  ex : ∃ (oc : Value) (od : Option Addr) (kV doc pm : Value) (an : Option Addr) (ct : Value) (osl : Array (Option Value)),
    fd = PySem.W.fnOf x qual params body scope .none kV doc pm an (.ref c) ct ∧ K.lookup f = some ⟨oc, od, .func fd, osl⟩ ∧ PySem.W.codeIn K (.ref c) qual = true
theorem fnG_ofC {CX : CXT} {P : Program} {w : World} {K : PySem.W.Frag} {mg : Str → Option Value} {base : Heap} {x qual : Str} {params : Arguments} {body : List Stmt} {scope : Scope} {f c : Addr} {fd : FuncData} {N ps : List Str} {k : Nat} {sp : Sp}
    (F : FunC K x qual params body scope c f fd) (S : FnScope N ps scope) (len : ∀ vs H Q E, sp vs H Q E → vs.length = ps.length)
    (hbody : ∀ (A : Around) (outer : List Env) (s : Shared) (H : Hp) (vs : List V) (Q : VK) (E : XK), A.guards = some [] → Room k (A.deeper (envOfC qual scope s.heap.objs.size f (.ref c))) → sp vs H Q E →
      ∃ t, PSs (cxOf CX P w K mg base N qual scope f (.ref c) A outer s H E) body t ∧ t { nx := fun _ H' => Q .non H', rt := Q } (L2.start N vs) H) : FnG P w K mg base CX (k + 1) f fd ps sp := by
  obtain ⟨oc, od, kV, doc, pm, an, ct, osl, rfl, lk, hcd⟩ := F.ex
  refine ⟨len, fun A outer s H args us vs Q E gd room e0 bnd rel wish => ?_⟩
  have old : ∀ {b o}, base.get? b = some o → s.heap.get? b = some o := fun {b o} e => (e0.bs b o e).1
  have KX : K.In s.heap := e0.mod.kin.keeps fun b o e => old e
  refine codeAny_call_function room.depth (KX _ _ lk) rfl S.co S.gen rfl (PySem.W.codeRec_of KX hcd) (bnd _ _ _ _ ?_)
  refine wpAny_newFunctionEnv_cells S.kind (fun y hy => ?_) fun env he s1 x => ?_
  · exact (S.par y.1 (List.of_mem_zip hy).1).elim .inl fun q => .inr ⟨q, PySem.W.cellsFrom_some _ _ _ (.inl q)⟩
  · subst he
    obtain ⟨t, ht, hq⟩ := hbody A outer s H vs Q E gd (room.deeper _) wish
    have I0 := inv_start (CX := CX) (E := E) (ps := ps) (us := us) S room.hd e0 (len _ _ _ _ wish) rel x
    refine ⟨(e0.mod.nolimit.keeps fun b o e => old e).keeps x.toInCall.keep, codeAny_func (wpAny_mono (ht.run [] s1 (L2.start N vs) H _ I0 hq) (fun fl s' hs => ?_) fun e s' hs => hs)⟩
    cases fl with
    | ret u =>
      obtain ⟨v, τ, G, J, rv, q⟩ := hs
      exact ⟨v, G, J.os, J.bare, J.base, J.hok, rv, q⟩
    | next =>
      obtain ⟨τ, G, J, q⟩ := hs
      exact ⟨V.non, G, J.os, J.bare, J.base, J.hok, rfl, q⟩
    | brk => exact False.elim (show False from hs.elim fun _ h => h.elim fun _ h => h.2)
    | cont => exact False.elim (show False from hs.elim fun _ h => h.elim fun _ h => h.2)
/-! ### the law's own catcher -/
structure CatD (K : PySem.W.Frag) (mg : Str → Option Value) (x a : Str) (tbl : List (Addr × Str)) : Prop where
  ex : ∃ (g : Addr) (Ng : List Str) (pg : Arguments) (bg : List Stmt) (sg : Scope) (dV kV doc pm cdv ct oc : Value) (an od : Option Addr) (osl : Array (Option Value)), mg x = some (.ref g) ∧ PySem.W.keepIn K (.ref g) = true ∧
    K.lookup g = some ⟨oc, od, .func (PySem.W.fnOf x x pg bg sg dV kV doc pm an cdv ct), osl⟩ ∧ PySem.W.codeIn K cdv x = true ∧ L2.Binds K (PySem.W.fnOf x x pg bg sg dV kV doc pm an cdv ct) [a] [] ∧ FnScope Ng [a] sg ∧ Ng[0]? = some a ∧ Vis sg a ∧
    ∀ (X : Cx) (q : Str), X.K = K → X.mg = mg → LamX.GivesTo X Ng x sg g cdv bg a q (TTc tbl)
theorem pe_lam {X : Cx} {x a : Str} {tbl : List (Addr × Str)} {c T : Addr} {k m : Nat} {params : Arguments} {body : Expr} {scope : Scope} {t : XK → TE} {p lpos pos : Pos} (D : CatD X.K X.mg x a tbl) (B : LamX.TabB X.base X.mg c T) (code : X.env.code = .ref c) (room : Room m X.A) (L : LamX.LamS X.env.scope scope) (hg : Gl X x) (hk : k + 2 ≤ m)
    (nodef : defaultsOf params X.env = ([], [])) (noargs : ∀ (q : Str) (cl : List (Str × Addr)) (pm cv ctv : Value), bindArgs (PySem.W.kla_fn "<lambda>" q params body scope cl pm cv ctv) ⟨[], []⟩ = pure [])
    (inside : ∀ (A : Around) (outer : List Env) (s : Shared) (H : Hp) (E : XK) (f c' : Addr), Room k (A.deeper (LamX.lamEnv X scope s.heap.objs.size f c')) → PE (LamX.lamCx X A outer s H E scope f c') body (t E))
    (hdb : (x == ("__debug__" : Str)) = false := by decide) (ha1 : (a == ("__debug__" : Str)) = false := by decide) (ha2 : (a == ("__classdict__" : Str)) = false := by decide) :
    PE X (.Call (.Name x p) [.Lambda params body scope lpos] [] pos) (tLamC T (X.env.qual ++ "<lambda>") (TTc tbl) t) := by
  obtain ⟨g, Ng, pg, bg, sg, dV, kV, doc, pm, cdv, ct, oc, an, od, osl, h1, h2, h3, h4, h5, h6, h7, h8, h9⟩ := D.ex
  exact S1.pe_lamC h3 h1 h2 h4 h5 h6 h7 h8 (h9 X _ rfl rfl) B code (room.mono hk) L nodef noargs inside hg hdb ha1 ha2
theorem passL {X : Cx} {A : Around} {outer : List Env} {s : Shared} {H : Hp} {E : XK} {scope : Scope} {f c' : Addr} : Passes (L2.CX X.prog X.w) (LamX.lamCx X A outer s H E scope f c') E := passes_call (takes_of rfl rfl rfl rfl) fun _ _ _ _ h => h
/-! ### lists and texts, looked into -/
theorem ix_or {X : Cx} {r1 r2 : R2} (h1 : IxR X r1) (h2 : IxR X r2) : IxR X (fun x y H Q => r1 x y H Q ∨ r2 x y H Q) := fun value slice pins s σ H x y v u Q I rx ry h hs => h.elim (fun h => h1 value slice pins s σ H x y v u Q I rx ry h hs) fun h => h2 value slice pins s σ H x y v u Q I rx ry h hs
section
variable {s s' s1 s2 : Sls} {r r' r1 r2 r3 rc rest pre post : Rs} {ta tb te tv td : TE} {t tr tk : TA} {c c2 : TT} {P Q R : Pr} {K : PySem.W.Frag} {Ω Φ : Pr → Rs → Prop} {Ps Qs Zs : List Pr} {e : Ent} {po : Po} {ts us : TS} {i j : Int} {E : XK} {S : Spec} {z z' : Str}
abbrev rIxA (K : PySem.W.Frag) : R2 := fun x y H Q => rIxL K x y H Q ∨ rIxS x y H Q
theorem rv_ixA (h0 : 0 ≤ i) (h : Ps[i.toNat]? = some P) : RVp (rIxA K) (rLs K Ps) (rInt i) P := fun G H x y sm px py W w => .inl (rv_ixL h0 h G H x y sm px py W w)
theorem rv_ixS {c : Nat} (h0 : 0 ≤ i) (hz : z.length ≤ sizeLine) (h : z.cps.toList[i.toNat]? = some c) : RVp rIxS (rStr z) (rInt i) (rStr ⟨#[c]⟩) := fun G H x y sm px py W w => ⟨z, i, c, px, py, hz, atI_nn h0 h, w _ rfl⟩
theorem rv_ixAS {c : Nat} (h0 : 0 ≤ i) (hz : z.length ≤ sizeLine) (h : z.cps.toList[i.toNat]? = some c) : RVp (rIxA K) (rStr z) (rInt i) (rStr ⟨#[c]⟩) := fun G H x y sm px py W w => .inr (rv_ixS h0 hz h G H x y sm px py W w)
/-- z[lo:hi] -/
def EvO (s : Sls) (r : Rs) (to : TO) (o : Option Int) (r' : Rs) : Prop := ∀ e G H σ, Mv e G H r → SlOk G σ s → ∀ Q : Option Int → Hp → Prop, (∀ G' H', Mv e G' H' r' → Same G G' → Q o H') → to σ H Q
theorem eo_none : EvO s r tNoPart none r := fun e G H σ m l Q q => q G H m (Same.refl _)
theorem eo_some (h : Ev s r te (rInt i) r1) : EvO s r (tPart te) (some i) r1 := fun e G H σ m l Q q => h e G H σ m l _ fun v G1 H1 m1 g1 pv => ⟨i, pv, q G1 H1 m1 g1⟩
theorem ev_slS {tl th : TO} {lo hi : Option Int} (h : Ev s r te (rStr z) r1) (hl : EvO s r1 tl lo r2) (hh : EvO s r2 th hi r3) (hz : z.length ≤ sizeLine) : Ev s r (tSl rSlS te tl th) (rStr (cutS z lo hi)) r3 := fun e G H σ m l W w => h e G H σ m l _ fun v G1 H1 m1 g1 pv => hl e G1 H1 σ m1 (l.mono g1) _ fun G2 H2 m2 g2 => hh e G2 H2 σ m2 (l.mono (g1.trans g2)) _ fun G3 H3 m3 g3 =>
  ⟨z, pv, hz, w _ G3 H3 m3 (g1.trans (g2.trans g3)) rfl⟩
theorem ev_join (ho : Ev s r ta (rStr z) r1) (h : EvX s r1 te fun P r2 => ∃ zs : List Str, P = rLp (zs.map rStr) ∧ (zs.map (·.length)).sum + zs.length * z.length ≤ 16777216 ∧ Ω (rStr (Txt.join z zs)) r2) :
    EvX s r (tM1 (fun x xs H Q => ∃ a p, ∃ ys : List Str, x = .str a ∧ xs = [.ref p] ∧ (SqL K H p (ys.map V.str) ∨ SqT K H p (ys.map V.str)) ∧ (ys.map (·.length)).sum + ys.length * a.length ≤ 16777216 ∧ Q (.str (Txt.join a ys)) H) ta te) Ω := fun e G H σ m l W w =>
  ho e G H σ m l _ fun x G1 H1 m1 g1 px => ⟨⟨z, px⟩, h e G1 H1 σ m1 (l.mono g1) _ fun y G2 H2 P r2 ⟨zs, e1, hz, k⟩ m2 g2 py => by
    subst e1
    obtain ⟨_, a, vs, e2, h2, al⟩ := py
    have := all2_strs al
    subst this e2
    exact ⟨z, a, zs, px, rfl, .inl (SqL.of (m2.sub _ _ h2)), hz, w _ G2 H2 _ r2 k m2 (g1.trans g2) rfl⟩⟩
theorem join_nil : ∀ zs : List Str, (Txt.join ("" : Str) zs).cps.toList = (zs.map (·.cps.toList)).flatten := fun zs => by
  rw [TL.join_eq]
  have h : ∀ zs : List (List Nat), TL.joinL [] zs = zs.flatten := fun zs => by
    induction zs with
    | nil => rfl
    | cons p zs ih =>
      cases zs with
      | nil => simp [TL.joinL]
      | cons q zs => rw [TL.joinL, ih]; simp
  have := TL.tl_join ("" : Str) zs
  rw [show TL.tl ("" : Str) = [] from by decide] at this
  rw [h] at this
  exact this
/-! ### pairs with different texts, sorted -/
theorem rtp_mem {G : Hp} {α : Type} {R : α → Pr} : ∀ {vs : List V} {xs : List α}, All2 G vs (xs.map R) → ∀ v ∈ vs, ∃ x ∈ xs, (R x).p G v
  | _, [], h, v, hv => by cases h; cases hv
  | _, x :: xs, h, v, hv => by
    rw [List.map_cons] at h
    cases h with
    | cons a t =>
      rcases List.mem_cons.mp hv with rfl | hv
      · exact ⟨x, List.mem_cons_self, a⟩
      · obtain ⟨y, hy, q⟩ := rtp_mem t v hv
        exact ⟨y, List.mem_cons_of_mem _ hy, q⟩
def rPq (c : Str × Option Str) : Pr := rTp [rStr c.1, rOpt rStr c.2]
end
end FL

/-! words that differ at one place; copies that follow earlier ones: plain laws. -/
namespace FL
open PySem PySem.Spec PyProof.Rows L2 StX FN FT FS FZ
theorem str_ext {a b : Str} (h : a.cps.toList = b.cps.toList) : a = b := by
  cases a with
  | mk a => cases b with
    | mk b => exact congrArg Str.mk (Array.toList_inj.mp h)
theorem app_list (a b : Str) : (a ++ b).cps.toList = a.cps.toList ++ b.cps.toList := TL.tl_append a b
def smC (i : Int) : Nat := 97 + i.toNat
theorem small_at {i : Int} (h0 : 0 ≤ i) (h1 : i < 26) : small.cps.toList[i.toNat]? = some (smC i) := by
  have h : ∀ n : Nat, n < 26 → small.cps.toList[n]? = some (97 + n) := by decide +kernel
  exact h i.toNat (by omega)
theorem smC_mem {i : Int} (h0 : 0 ≤ i) (h1 : i < 26) : smC i ∈ small.cps.toList := List.mem_of_getElem? (small_at h0 h1)
def wd (stem : Str) (spot : Nat) (first : Int) (k : Nat) : Str := cutS stem none (some (spot : Int)) ++ (⟨#[smC ((first + 3 * (k : Int)).fmod 26)]⟩ : Str) ++ cutS stem (some (spot : Int)) none
theorem wd_list {stem : Str} {spot : Nat} {first : Int} {k : Nat} (h : spot ≤ stem.length) : (wd stem spot first k).cps.toList = stem.cps.toList.take spot ++ [smC ((first + 3 * (k : Int)).fmod 26)] ++ stem.cps.toList.drop spot := by
  have hl : stem.cps.toList.length = stem.length := by simp [Str.length]
  unfold wd
  rw [app_list, app_list]
  unfold cutS
  rw [HT.sIx_nat, HT.sIx_nat, HT.sIx_none, HT.sIx_none, Nat.min_eq_left h]
  simp only [List.drop_zero, Nat.sub_zero]
  rw [show ((stem.cps.toList.drop spot).take (stem.length - spot)) = stem.cps.toList.drop spot from List.take_of_length_le (by rw [List.length_drop, hl]; exact Nat.le_refl _)]
theorem fmod26 (i : Int) : 0 ≤ i.fmod 26 ∧ i.fmod 26 < 26 := ⟨Int.fmod_nonneg_of_pos i (by decide), Int.fmod_lt_of_pos i (by decide)⟩
theorem wd_inj {stem : Str} {spot : Nat} {first : Int} {k k' : Nat} (h : spot ≤ stem.length) (hk : k < 8) (hk' : k' < 8) (e : wd stem spot first k = wd stem spot first k') : k = k' := by
  have e1 := congrArg (fun z : Str => z.cps.toList[spot]?) e
  simp only [wd_list h] at e1
  have hl : stem.cps.toList.length = stem.length := by simp [Str.length]
  have ht : (stem.cps.toList.take spot).length = spot := by rw [List.length_take, hl, Nat.min_eq_left h]
  have key : ∀ c : Nat, (stem.cps.toList.take spot ++ [c] ++ stem.cps.toList.drop spot)[spot]? = some c := fun c => by
    rw [List.append_assoc, List.getElem?_append_right (by omega), ht, Nat.sub_self]
    rfl
  rw [key, key] at e1
  have e1 := Option.some.inj e1
  unfold smC at e1
  have a := fmod26 (first + 3 * (k : Int))
  have b := fmod26 (first + 3 * (k' : Int))
  have c : (first + 3 * (k : Int)).fmod 26 = (first + 3 * (k' : Int)).fmod 26 := by omega
  rw [Int.fmod_eq_emod_of_nonneg _ (by decide), Int.fmod_eq_emod_of_nonneg _ (by decide)] at c
  omega
theorem wd_made {stem : Str} {spot : Nat} {first : Int} {k : Nat} (h : spot ≤ stem.length) (hz : stem.length ≤ 7) (hs : ∀ c ∈ stem.cps.toList, c ∈ small.cps.toList) : madeB small (.str (wd stem spot first k)) = true := by
  have hl : stem.cps.toList.length = stem.length := by simp [Str.length]
  have el : (wd stem spot first k).length = stem.length + 1 := by
    have : (wd stem spot first k).cps.toList.length = (wd stem spot first k).length := by simp [Str.length]
    rw [← this, wd_list h, List.length_append, List.length_append, List.length_take, List.length_drop, hl, Nat.min_eq_left h, List.length_singleton]
    omega
  show (decide (1 ≤ ((wd stem spot first k).length : Int)) && decide (((wd stem spot first k).length : Int) ≤ 8) && ((wd stem spot first k).cps.toList.all fun c => decide (c ∈ small.cps.toList))) = true
  rw [el, Bool.and_eq_true, Bool.and_eq_true, decide_eq_true_eq, decide_eq_true_eq, List.all_eq_true]
  refine ⟨⟨by omega, by omega⟩, fun c hc => decide_eq_true ?_⟩
  rw [wd_list h] at hc
  rcases List.mem_append.mp hc with hc | hc
  · rcases List.mem_append.mp hc with hc | hc
    · exact hs c (List.mem_of_mem_take hc)
    · rw [List.mem_singleton.mp hc]
      exact smC_mem (fmod26 _).1 (fmod26 _).2
  · exact hs c (List.mem_of_mem_drop hc)
/-- words as the law draws them -/
structure Wds (ws : List Str) (n : Nat) : Prop where
  len : ws.length = n
  nd : ws.Nodup
  made : ∀ w ∈ ws, madeB small (.str w) = true
theorem wds_mk {stem : Str} {spot : Nat} {first : Int} {n : Nat} (h : spot ≤ stem.length) (hz : stem.length ≤ 7) (hs : ∀ c ∈ stem.cps.toList, c ∈ small.cps.toList) (hn : n ≤ 8) : Wds ((List.range n).map (wd stem spot first)) n where
  len := by rw [List.length_map, List.length_range]
  nd := by
    refine List.pairwise_map.mpr ?_
    refine List.Pairwise.imp_of_mem ?_ (List.nodup_range (n := n))
    intro a b ha hb ne e
    exact ne (wd_inj h (Nat.lt_of_lt_of_le (List.mem_range.mp ha) hn) (Nat.lt_of_lt_of_le (List.mem_range.mp hb) hn) e)
  made := fun w hw => by
    obtain ⟨k, _, rfl⟩ := List.mem_map.mp hw
    exact wd_made h hz hs
/-! ### copies -/
theorem ends_mono {cs : Cs} : ∀ {n : Nat} {o : Option Str}, ends cs n o = true → ends cs (n + 1) o = true
  | _, none, _ => by simp [ends]
  | 0, some z, h => by simp [ends] at h
  | n + 1, some z, h => by
    unfold ends at h ⊢
    cases hl : cs.lookup z with
    | none => rw [hl] at h; cases h
    | some o =>
      rw [hl] at h
      exact ends_mono h
theorem ends_le {cs : Cs} {o : Option Str} {n m : Nat} (h : ends cs n o = true) (k : n ≤ m) : ends cs m o = true := by
  induction k with
  | refl => exact h
  | step _ ih => exact ends_mono ih
theorem ends_ext {cs cs' : Cs} (h : ∀ z, cs.lookup z = cs'.lookup z) : ∀ (n : Nat) (o : Option Str), ends cs n o = ends cs' n o
  | _, none => by simp [ends]
  | 0, some z => by simp [ends]
  | n + 1, some z => by
    unfold ends
    rw [h z]
    cases cs'.lookup z with
    | none => rfl
    | some o => exact ends_ext h n o
theorem lookup_mem {cs : Cs} (nd : (cs.map (·.1)).Nodup) {c : Str × Option Str} (h : c ∈ cs) : cs.lookup c.1 = some c.2 := by
  induction cs with
  | nil => cases h
  | cons d cs ih =>
    obtain ⟨a, b⟩ := d
    rw [List.map_cons, List.nodup_cons] at nd
    rcases List.mem_cons.mp h with rfl | h
    · simp [List.lookup]
    · have ne : c.1 ≠ a := fun e => nd.1 (by rw [← e]; exact List.mem_map.mpr ⟨c, h, rfl⟩)
      rw [List.lookup_cons, show (c.1 == a) = false from beq_eq_false_iff_ne.mpr ne]
      exact ih nd.2 h
theorem lookup_none {cs : Cs} {z : Str} (h : z ∉ cs.map (·.1)) : cs.lookup z = none := by
  induction cs with
  | nil => rfl
  | cons d cs ih =>
    obtain ⟨a, b⟩ := d
    rw [List.map_cons, List.mem_cons, not_or] at h
    rw [List.lookup_cons, show (z == a) = false from beq_eq_false_iff_ne.mpr h.1]
    exact ih h.2
theorem lookup_perm {cs cs' : Cs} (nd : (cs.map (·.1)).Nodup) (p : cs.Perm cs') (z : Str) : cs.lookup z = cs'.lookup z := by
  have nd' : (cs'.map (·.1)).Nodup := (p.map (·.1)).nodup_iff.mp nd
  by_cases h : z ∈ cs.map (·.1)
  · obtain ⟨c, hc, rfl⟩ := List.mem_map.mp h
    rw [lookup_mem nd hc, lookup_mem nd' (p.mem_iff.mp hc)]
  · rw [lookup_none h, lookup_none (fun q => h ((p.map (·.1)).mem_iff.mpr q))]
/-- each follows none, or one that was drawn ahead of it -/
structure Drawn (cs : Cs) (ws : List Str) : Prop where
  fst : cs.map (·.1) = ws
  fo : ∀ (i : Nat) (c : Str × Option Str), cs[i]? = some c → c.2 = none ∨ ∃ j, j < i ∧ c.2 = ws[j]?
theorem Drawn.ends {cs : Cs} {ws : List Str} (D : Drawn cs ws) (nd : ws.Nodup) : ∀ (i : Nat) (c : Str × Option Str), cs[i]? = some c → ends cs (i + 1) (some c.1) = true := by
  intro i
  induction i using Nat.strongRecOn with
  | _ i ih =>
    intro c hc
    have hl := lookup_mem (by rw [D.fst]; exact nd) (List.mem_of_getElem? hc)
    unfold FL.ends
    rw [hl]
    show FL.ends cs i c.2 = true
    rcases D.fo i c hc with h | ⟨j, hj, h⟩
    · rw [h]
      cases i <;> simp [FL.ends]
    · have hjl : j < cs.length := by have := (List.getElem?_eq_some_iff.mp hc).1; omega
      have e : ws[j]? = some (cs[j]).1 := by rw [← D.fst, List.getElem?_map, List.getElem?_eq_getElem hjl]; rfl
      rw [h, e]
      exact ends_le (ih j hj _ (List.getElem?_eq_getElem hjl)) (by omega)
theorem sorted_of {l : List Str} (h : l.Pairwise (fun a b => ¬ b.cps.toList < a.cps.toList)) : sortedS l = true := by
  cases l with
  | nil => rfl
  | cons x l =>
    show risingS x l = true
    induction l generalizing x with
    | nil => rfl
    | cons y l ih =>
      unfold risingS
      have h1 := List.pairwise_cons.mp h
      rw [ltCps_eq, ih y h1.2, Bool.and_true]
      have := h1.1 y List.mem_cons_self
      simpa using this
theorem good_of {cs cs0 : Cs} {ws : List Str} {n : Nat} (W : Wds ws n) (D : Drawn cs0 ws) (hn : 1 ≤ n) (hn6 : n ≤ 6) (p : cs.Perm cs0) (so : sortedS (cs.map (·.1)) = true) : CsGood cs := by
  have l0 : cs0.length = n := by rw [← W.len, ← D.fst, List.length_map]
  have nd0 : (cs0.map (·.1)).Nodup := by rw [D.fst]; exact W.nd
  have nd : (cs.map (·.1)).Nodup := (p.map (·.1)).nodup_iff.mpr nd0
  refine ⟨⟨by rw [p.length_eq, l0]; exact hn6, nd, fun c hc => ?_⟩, by rw [p.length_eq, l0]; exact hn, fun c hc => ?_, fun c hc z hz => ?_, so⟩
  · rw [ends_ext (lookup_perm nd p)]
    obtain ⟨i, hi⟩ := List.getElem?_of_mem (p.mem_iff.mp hc)
    have := (List.getElem?_eq_some_iff.mp hi).1
    exact ends_le (D.ends W.nd i c hi) (by rw [p.length_eq]; omega)
  · exact W.made _ (by rw [← D.fst]; exact List.mem_map.mpr ⟨c, p.mem_iff.mp hc, rfl⟩)
  · obtain ⟨i, hi⟩ := List.getElem?_of_mem (p.mem_iff.mp hc)
    rcases D.fo i c hi with h | ⟨j, hj, h⟩
    · rw [h] at hz; cases hz
    · rw [hz] at h
      have hm : z ∈ ws := List.mem_of_getElem? h.symm
      refine ⟨W.made z hm, ?_⟩
      rw [← D.fst] at hm
      exact (p.map (·.1)).mem_iff.mpr hm
end FL

namespace FL
open PySem PySem.Spec PyProof.Rows L2 StX FN FT FS FZ
open S1 (Dq DqA rSortedTx cr_sortedTx tLamC Chg tMethN rReprQ call_reprQ FnG)
section
variable {s s' s1 s2 : Sls} {r r' r1 r2 r3 rc rest pre post : Rs} {ta tb te tv td : TE} {t tr tk : TA} {c c2 : TT} {P Q R : Pr} {K : PySem.W.Frag} {Ω Φ : Pr → Rs → Prop} {Ps Qs Zs : List Pr} {e : Ent} {po : Po} {ts us : TS} {i j : Int} {E : XK} {S : Spec} {z z' : Str}
theorem all2_perm {α : Type} {R : α → Pr} {G : Hp} {ys xs : List V} (p : ys.Perm xs) : ∀ {l : List α}, All2 G xs (l.map R) → ∃ l', List.Perm l' l ∧ All2 G ys (l'.map R) := by
  induction p with
  | nil => intro l h; exact ⟨l, List.Perm.refl _, h⟩
  | cons x _ ih =>
    intro l h
    cases l with
    | nil => cases h
    | cons a l =>
      rw [List.map_cons] at h
      cases h with
      | cons b t =>
        obtain ⟨l', p', h'⟩ := ih t
        exact ⟨a :: l', p'.cons a, .cons b h'⟩
  | swap x y l0 =>
    intro l h
    cases l with
    | nil => cases h
    | cons a l => cases l with
      | nil => rw [List.map_cons] at h; cases h with | cons b t => cases t
      | cons b l =>
        rw [List.map_cons, List.map_cons] at h
        cases h with
        | cons u t => cases t with
          | cons v t => exact ⟨b :: a :: l, List.Perm.swap a b l, .cons v (.cons u t)⟩
  | trans _ _ ih1 ih2 =>
    intro l h
    obtain ⟨l1, p1, h1⟩ := ih2 h
    obtain ⟨l2, p2, h2⟩ := ih1 h1
    exact ⟨l2, p2.trans p1, h2⟩
theorem tx_keys {G : Hp} {k : V → Str} : ∀ {xs : List V} {cs : Cs}, All2 G xs (cs.map rPq) → (∀ x ∈ xs, ∃ t y, x = V.ref t ∧ G t = some (.tup [.str (k x), y])) → xs.map k = cs.map (·.1)
  | _, [], h, _ => by cases h; rfl
  | _, c :: cs, h, hk => by
    rw [List.map_cons] at h
    cases h with
    | @cons v _ a _ b t =>
      obtain ⟨tt, y, e1, e2⟩ := hk _ List.mem_cons_self
      obtain ⟨_, a2, vs, e3, e4, al⟩ := b
      rw [e1] at e3
      cases e3
      rw [e2] at e4
      cases e4
      cases al with
      | cons u _ =>
        have u : V.str (k v) = V.str c.1 := u
        rw [List.map_cons, List.map_cons, V.str.inj u, tx_keys t fun x hx => hk x (List.mem_cons_of_mem _ hx)]
theorem inj_nodup {k : V → Str} : ∀ {xs : List V}, (xs.map k).Nodup → ∀ {x y : V}, x ∈ xs → y ∈ xs → k x = k y → x = y
  | u :: xs, nd, x, y, hx, hy, e => by
    rw [List.map_cons, List.nodup_cons] at nd
    rcases List.mem_cons.mp hx with hx | hx
    · rcases List.mem_cons.mp hy with hy | hy
      · rw [hx, hy]
      · exact absurd (List.mem_map.mpr ⟨y, hy, by rw [← e, hx]⟩) nd.1
    · rcases List.mem_cons.mp hy with hy | hy
      · exact absurd (List.mem_map.mpr ⟨x, hx, by rw [e, hy]⟩) nd.1
      · exact inj_nodup nd.2 hx hy e
theorem ex_sortedTx (h : EvXA s r t fun Ps r1 => ∃ cs0 : Cs, Ps = [rLs K (cs0.map rPq)] ∧ (cs0.map (·.1)).Nodup ∧ ∀ cs : Cs, cs.Perm cs0 → sortedS (cs.map (·.1)) = true → Ω (rLs K (cs.map rPq)) r1) : EvX s r (tCB (rSortedTx K) t) Ω := fun e G H σ m l W w => h e G H σ m l _ fun vs G1 H1 Ps r1 ⟨cs0, e1, nd, k0⟩ m1 g1 al => by
  subst e1
  cases al with
  | cons a1 al =>
    cases al
    obtain ⟨z, a, xs, rfl, hs, al⟩ := a1
    have tups : ∀ x ∈ xs, ∃ (zz : Str), ∃ tt y, x = V.ref tt ∧ G1 tt = some (.tup [.str zz, y]) := fun x hx => by
      obtain ⟨c, _, _, a2, vs, e3, e4, q⟩ := rtp_mem al x hx
      cases q with
      | cons u q => cases q with
        | cons v q =>
          cases q
          have u : _ = V.str c.1 := u
          subst u
          exact ⟨c.1, a2, _, e3, e4⟩
    have ch : ∀ x : V, ∃ zz : Str, x ∈ xs → ∃ tt y, x = V.ref tt ∧ G1 tt = some (.tup [.str zz, y]) := fun x => by
      by_cases hx : x ∈ xs
      · obtain ⟨p, q⟩ := tups x hx
        exact ⟨p, fun _ => q⟩
      · exact ⟨⟨#[]⟩, fun h => absurd h hx⟩
    obtain ⟨k, hk⟩ := Classical.axiomOfChoice ch
    have ek := tx_keys al hk
    have ndk : (xs.map k).Nodup := by rw [ek]; exact nd
    refine ⟨a, xs, k, rfl, m1.sub.seq hs, fun x hx => ?_, fun x hx y hy e => ?_, fun ys p pm so hp => ?_⟩
    · obtain ⟨tt, y, e1, e2⟩ := hk x hx
      exact ⟨tt, y, e1, m1.sub _ _ e2⟩
    · exact inj_nodup ndk hx hy e
    · have gn := same_new (o := .lst ys) (m1.sub.free hp)
      obtain ⟨cs, pc, al2⟩ := all2_perm pm al
      have ek2 := tx_keys al2 fun x hx => hk x (pm.mem_iff.mp hx)
      have so2 : sortedS (cs.map (·.1)) = true := by
        rw [← ek2]
        exact sorted_of (List.pairwise_map.mpr so)
      exact w _ (upd G1 p (.lst ys)) _ _ r1 (k0 cs pc so2) (m1.new hp) (g1.trans gn) ⟨by rw [List.length_map, pc.length_eq]; rw [List.length_map] at z; exact z, p, ys, rfl, SqL.of upd_same, al2.mono gn⟩
theorem all2_imp {α : Type} {R R' : α → Pr} {G : Hp} (k : ∀ a G v, (R a).p G v → (R' a).p G v) : ∀ {vs : List V} {l : List α}, All2 G vs (l.map R) → All2 G vs (l.map R')
  | _, [], h => by cases h; exact .nil
  | _, a :: l, h => by
    rw [List.map_cons] at h ⊢
    cases h with
    | cons x t => exact .cons (k a _ _ x) (all2_imp k t)
theorem ls_imp {α : Type} {R R' : α → Pr} {l : List α} (k : ∀ a G v, (R a).p G v → (R' a).p G v) : ∀ (G : Hp) (v : V), (rLs K (l.map R)).p G v → (rLs K (l.map R')).p G v := fun G v ⟨z, a, vs, e, h, q⟩ => ⟨by rw [List.length_map] at z ⊢; exact z, a, vs, e, h, all2_imp k q⟩
theorem lp_imp {α : Type} {R R' : α → Pr} {l : List α} (k : ∀ a G v, (R a).p G v → (R' a).p G v) : ∀ (G : Hp) (v : V), (rLp (l.map R)).p G v → (rLp (l.map R')).p G v := fun G v ⟨z, a, vs, e, h, q⟩ => ⟨by rw [List.length_map] at z ⊢; exact z, a, vs, e, h, all2_imp k q⟩
theorem pq_pair {cc : Str × Option Str} : ∀ (G : Hp) (v : V), (rPq cc).p G v → (rPair K cc).p G v := tp_ts
theorem ex_tupQ (h : EvX s r ta fun P r1 => ∃ Ps, P = rLs K Ps ∧ Ω (rTq Ps) r1) : EvX s r (tTupQ K ta) Ω := fun e G H σ m l W w => h e G H σ m l _ fun x G1 H1 P r1 ⟨Ps, e1, k⟩ m1 g1 px => by
  subst e1
  obtain ⟨z, a, vs, ex, hs, al⟩ := px
  exact ⟨a, vs, ex, m1.sub.seq hs, fun q od hd hq => w _ (upd G1 q (.frz od (.tup vs))) _ _ r1 k (m1.new hq) (g1.trans (same_new (m1.sub.free hq))) ⟨z, q, od, vs, rfl, upd_same, hd, al.mono (same_new (m1.sub.free hq))⟩⟩
theorem EvX.impP (h : EvX s r te Φ) (k : ∀ P r1, Φ P r1 → ∃ P', Ω P' r1 ∧ ∀ G v, P.p G v → P'.p G v) : EvX s r te Ω := fun e G H σ m l W w => h e G H σ m l W fun v G1 H1 P r1 f m1 g1 pv => by
  obtain ⟨P', f', i⟩ := k P r1 f
  exact w v G1 H1 P' r1 f' m1 g1 (i _ _ pv)
theorem ev_int1 (h : EvA s r t [rInt i] r1) : Ev s r (tCB (fun xs H Q => (∃ i, xs = [.int i] ∧ Q (.int i) H) ∨ ∃ k, xs = [.bl k] ∧ Q (.int (if k then 1 else 0)) H) t) (rInt i) r1 := ev_cb h fun G H vs sm al W w => by
  cases al with
  | cons a al =>
    cases al
    exact .inl ⟨i, by rw [show _ = V.int i from a], w _ rfl⟩
theorem ev_len (h : EvA s r t [P] r1) {n : Nat} (hn : ∀ G H v, Same G H → P.p G v → LenV K v H n) : Ev s r (tCB (fun xs H Q => ∃ x n, xs = [x] ∧ LenV K x H n ∧ Q (.int n) H) t) (rInt (n : Int)) r1 := ev_cb h fun G H vs sm al W w => by
  cases al with
  | cons av t =>
    cases t
    exact ⟨_, n, rfl, hn G H _ sm av, w _ rfl⟩
end
/-- [f(x) for x in xs], a plain list -/
theorem ex_lcMp {α : Type} {R : α → Pr} {xs : List α} {s : Sls} {r r1 : Rs} {wi : TI} {g : TG} {te : TE} {vs : List Nat} {Ω : Pr → Rs → Prop} (f : α → Pr) (hi : EvI s r wi (xs.map R) r1)
    (ht : xs.length ≤ sizeLine → ∀ x ∈ xs, ∃ s2 ws, Bg g (R x) (wipeS s vs) s2 ws ∧ (∀ w ∈ ws, w ∈ vs) ∧ Ev s2 r1 te (f x) r1) (k : Ω (rLp (xs.map f)) r1) : EvX s r (tLc wi g tYes te vs) Ω := by
  refine ex_lcX (eix_of hi) (fun _ i acc r' => acc = (xs.take i).map f ∧ r' = r1) (fun _ => ⟨rfl, rfl⟩) (fun _ z i P acc r' hP ⟨ha, hr⟩ => ?_) fun _ acc r' ⟨ha, hr⟩ => ?_
  · subst hr
    rw [List.length_map] at z
    rw [List.getElem?_map] at hP
    obtain ⟨x, hx, rfl⟩ := Option.map_eq_some_iff.mp hP
    obtain ⟨s2, ws, bg, hw, h1⟩ := ht z x (List.mem_of_getElem? hx)
    refine ⟨s2, ws, bg, hw, ext_of (b := true) (fun e G H σ m l Q q => q G H m (Same.refl _)) ⟨fun _ => ex_of h1 ⟨?_, rfl⟩, fun z => by cases z⟩⟩
    rw [ha, List.take_add_one, hx, List.map_append]
    rfl
  · subst hr
    rw [List.length_map, List.take_length] at ha
    rw [ha]
    exact k
/-! ### promises of the law's own defs -/
/-- pots: after at most so many draws -/
theorem pot_up {B C : Int} (h : B ≤ C) {G : Hp} {o : HO} (q : (cPot B).p G o) : (cPot C).p G o := by
  obtain ⟨x, y, z, e, a, b, c, d⟩ := q
  exact ⟨x, y, z, e, a, b, c, by omega⟩
theorem EvX.pot {s : Sls} {r : Rs} {te : TE} {p : Addr} {C : Int} {pre post : Rs} {Ω Φ : Pr → Rs → Prop} (h : EvX s r te Φ) (k : ∀ P r', Φ P r' → ∃ B, B ≤ C ∧ r' = pre ++ (p, cPot B) :: post ∧ Ω P (pre ++ (p, cPot C) :: post)) : EvX s r te Ω := fun e G H σ m l W w => h e G H σ m l W fun v G1 H1 P r1 f m1 g1 pv => by
  obtain ⟨B, hB, e1, f'⟩ := k P r1 f
  subst e1
  exact w v G1 H1 P _ f' (m1.up fun o => pot_up hB) g1 pv
theorem Ok.pot {e : Ent} {s : Sls} {p : Addr} {B C : Int} {pre post : Rs} {ts : TS} {po : Po} (hB : B ≤ C) (h : Ok e s (pre ++ (p, cPot C) :: post) ts po) : Ok e s (pre ++ (p, cPot B) :: post) ts po := fun G H σ m l D d => h G H σ (m.up fun o => pot_up hB) l D d
theorem EvX.permK {s : Sls} {r : Rs} {te : TE} {Ω Φ : Pr → Rs → Prop} (h : EvX s r te Φ) (k : ∀ P r1, Φ P r1 → ∃ r2, r1.Perm r2 ∧ Ω P r2) : EvX s r te Ω := fun e G H σ m l W w => h e G H σ m l W fun v G1 H1 P r1 f m1 g1 pv => by
  obtain ⟨r2, pm, f'⟩ := k P r1 f
  exact w v G1 H1 P r2 f' (m1.perm pm) g1 pv
def S_any (K : PySem.W.Frag) : Spec := fun Ps r Φ => ∃ (p : Addr) (P2 : Pr) (B : Int), Ps = [rAt p, P2] ∧ r = [(p, cPot B)] ∧ B ≤ 100000 ∧
  ((∃ Qs : List Pr, P2 = rLs K Qs ∧ 1 ≤ Qs.length ∧ Qs.length < 1000 ∧ Φ = fun P r' => P ∈ Qs ∧ r' = [(p, cPot (B + 1))]) ∨
  (∃ z : Str, P2 = rStr z ∧ 1 ≤ z.length ∧ z.length < 1000 ∧ Φ = fun P r' => (∃ c ∈ z.cps.toList, P = rStr ⟨#[c]⟩) ∧ r' = [(p, cPot (B + 1))]))
def S_words : Spec := fun Ps r Φ => ∃ (p : Addr) (n : Nat) (B : Int), Ps = [rAt p, rInt (n : Int)] ∧ r = [(p, cPot B)] ∧ 1 ≤ n ∧ n ≤ 8 ∧ B ≤ 90000 ∧ Φ = fun P r' => ∃ ws : List Str, P = rLp (ws.map rStr) ∧ Wds ws n ∧ r' = [(p, cPot (B + 20))]
def S_copies (K : PySem.W.Frag) : Spec := fun Ps r Φ => ∃ (p : Addr) (n : Nat) (B : Int), Ps = [rAt p, rInt (n : Int)] ∧ r = [(p, cPot B)] ∧ 1 ≤ n ∧ n ≤ 6 ∧ B ≤ 80000 ∧ Φ = fun P r' => ∃ cs : Cs, P = rTq (pairsP K (csP cs)) ∧ CsGood cs ∧ r' = [(p, cPot (B + 40))]
end FL

namespace FL
open PySem PySem.Spec PyProof.Rows L2 StX FN FT FS FZ
open S1 (Dq DqA rSortedTx cr_sortedTx tLamC Chg tMethN rReprQ call_reprQ FnG)
def cTbl (A : Ad) : List (Addr × Str) := [(A.c_NoCopy, "copy"), (A.c_BadSpans, "spans"), (A.c_BadWord, "word"), (A.c_NoAsk, "ask"), (A.c_BadCount, "count")]
/-- what the top says of the errors that the law catches -/
structure TxC (K : PySem.W.Frag) (mg : Str → Option Value) (A : Ad) (cK : Addr) : Prop where
  g1 : mg "NoCopy" = some (.ref A.c_NoCopy)
  g2 : mg "BadSpans" = some (.ref A.c_BadSpans)
  g3 : mg "BadWord" = some (.ref A.c_BadWord)
  g4 : mg "NoAsk" = some (.ref A.c_NoAsk)
  g5 : mg "BadCount" = some (.ref A.c_BadCount)
  g6 : mg "KeeperError" = some (.ref cK)
  f1 : XfC K A.c_NoCopy
  f2 : XfC K A.c_BadSpans
  f3 : XfC K A.c_BadWord
  f4 : XfC K A.c_NoAsk
  f5 : XfC K A.c_BadCount
  v1 : PySem.W.findIn K (.ref A.c_NoCopy) "value" = some none
  v2 : PySem.W.findIn K (.ref A.c_BadSpans) "value" = some none
  v3 : PySem.W.findIn K (.ref A.c_BadWord) "value" = some none
  v4 : PySem.W.findIn K (.ref A.c_NoAsk) "value" = some none
  v5 : PySem.W.findIn K (.ref A.c_BadCount) "value" = some none
  m11 : PySem.W.exmOne K (.ref A.c_NoCopy) (.ref A.c_NoCopy) = some true
  m21 : PySem.W.exmOne K (.ref A.c_BadSpans) (.ref A.c_NoCopy) = some false
  m22 : PySem.W.exmOne K (.ref A.c_BadSpans) (.ref A.c_BadSpans) = some true
  m31 : PySem.W.exmOne K (.ref A.c_BadWord) (.ref A.c_NoCopy) = some false
  m32 : PySem.W.exmOne K (.ref A.c_BadWord) (.ref A.c_BadSpans) = some false
  m33 : PySem.W.exmOne K (.ref A.c_BadWord) (.ref A.c_BadWord) = some true
  m41 : PySem.W.exmOne K (.ref A.c_NoAsk) (.ref A.c_NoCopy) = some false
  m42 : PySem.W.exmOne K (.ref A.c_NoAsk) (.ref A.c_BadSpans) = some false
  m43 : PySem.W.exmOne K (.ref A.c_NoAsk) (.ref A.c_BadWord) = some false
  m44 : PySem.W.exmOne K (.ref A.c_NoAsk) (.ref A.c_NoAsk) = some true
  m51 : PySem.W.exmOne K (.ref A.c_BadCount) (.ref A.c_NoCopy) = some false
  m52 : PySem.W.exmOne K (.ref A.c_BadCount) (.ref A.c_BadSpans) = some false
  m53 : PySem.W.exmOne K (.ref A.c_BadCount) (.ref A.c_BadWord) = some false
  m54 : PySem.W.exmOne K (.ref A.c_BadCount) (.ref A.c_NoAsk) = some false
  m55 : PySem.W.exmOne K (.ref A.c_BadCount) (.ref A.c_BadCount) = some true
/-- (word, error.value) in a clause -/
theorem cau_suite {D : Ends} {a C dd : Addr} {z : Str} {v : V} {τ : L2.St} {G : Hp} (hl : τ.length = 2) (hd : G dd = some (.xd [(("value" : Str), v)])) (k : 2 ≤ sizeLine ∧ ∀ p, G p = none → D.rt (.ref p) (upd G p (.tup [.str z, v]))) :
    tRet (tTup (tCons (tC (.str z)) (tCons (tXf a (.ref C) (some dd) C "value" (tVar 1)) tNil))) (S1.offD 1 D) (τ.set 1 (some (.ref a))) G :=
  ⟨_, List.getElem?_set_self (by omega), rfl, rfl, dd, _, v, rfl, hd, rfl, k⟩
end FL

namespace FL
open PySem PySem.Spec PyProof.Rows L2 StX FN FT FS FZ
open S1 (Dq DqA rSortedTx cr_sortedTx tLamC Chg tMethN rReprQ call_reprQ FnG)
/-- data whose repr is short -/
structure Fine (d : PyData) : Prop where
  l : d.leavesShort 60 = true
  w : d.weight ≤ 1000
  dp : d.depth ≤ 10
  s : d.showable = true
def fineB (d : PyData) : Bool := d.leavesShort 60 && (Nat.ble d.weight 1000 && (Nat.ble d.depth 10 && d.showable))
theorem fine_by {d : PyData} (h : fineB d = true) : Fine d := by
  unfold fineB at h
  obtain ⟨h1, h⟩ := Bool.and_eq_true_iff.mp h
  obtain ⟨h2, h⟩ := Bool.and_eq_true_iff.mp h
  obtain ⟨h3, h4⟩ := Bool.and_eq_true_iff.mp h
  exact ⟨h1, Nat.le_of_ble_eq_true h2, Nat.le_of_ble_eq_true h3, h4⟩
theorem fine_pair {z : Str} {d : PyData} (hz : Fine (.str z)) (h : Fine d) : (PyData.tuple [.str z, d]).showable = true ∧ (PyData.tuple [.str z, d]).depth ≤ 60 ∧ (PyData.tuple [.str z, d]).shown.length ≤ sizeLine := by
  have l : (PyData.tuple [.str z, d]).leavesShort 60 = true := by
    show (PyData.leavesShort 60 (.str z) && (PyData.leavesShort 60 d && PyData.leavesShortAll 60 [])) = true
    rw [hz.l, h.l]; rfl
  have w : (PyData.tuple [.str z, d]).weight ≤ 2002 := by
    show (PyData.str z).weight + 1 + (d.weight + 1 + 0) ≤ 2002
    have := hz.w; have := h.w; omega
  have dp : (PyData.tuple [.str z, d]).depth ≤ 11 := by
    show max (PyData.str z).depth (max d.depth 0) + 1 ≤ 11
    have := hz.dp; have := h.dp; omega
  refine ⟨?_, by omega, ?_⟩
  · show (PyData.showable (.str z) && (PyData.showable d && PyData.showableAll [])) = true
    rw [h.s]; rfl
  have := PyData.shown_le 60 (by decide) _ l
  have sz : sizeLine = 16777216 := sizeLine_eq
  omega
theorem fine_int {i : Int} (h0 : 0 ≤ i) (h1 : i ≤ 1000) : Fine (.int i) := by
  have e : (i.natAbs.log2) < 20 := by
    by_cases h : i.natAbs = 0
    · rw [h]; decide
    · exact (Nat.log2_lt h).mpr (by omega)
  have l := PyData.shown_int_le (i := i) (by omega)
  refine ⟨decide_eq_true (Nat.le_trans l (by decide)), ?_, Nat.zero_le _, decide_eq_true (Nat.lt_trans e (by decide))⟩
  show (if i == 0 then 0 else i.natAbs.log2 + 1) ≤ 1000
  split <;> omega
theorem small_lt : ∀ c ∈ small.cps.toList, c < 16 ^ 8 := by decide +kernel
theorem fine_str {z : Str} (h : ∀ c ∈ z.cps.toList, c < 16 ^ 8) (hz : z.length ≤ 1000) : Fine (.str z) :=
  ⟨List.all_eq_true.mpr fun c hc => decide_eq_true (h c hc), hz, Nat.zero_le _, rfl⟩
theorem made_small {z : Str} (h : madeB small (.str z) = true) : ∀ c ∈ z.cps.toList, c < 16 ^ 8 := fun c hc => by
  have h : (decide (1 ≤ (z.length : Int)) && decide ((z.length : Int) ≤ 8) && (z.cps.toList.all fun c => decide (c ∈ small.cps.toList))) = true := h
  rw [Bool.and_eq_true, Bool.and_eq_true, decide_eq_true_eq, decide_eq_true_eq, List.all_eq_true] at h
  exact small_lt c (of_decide_eq_true (h.2 c hc))
theorem fine_word {z : Str} (h : madeB small (.str z) = true) : Fine (.str z) := fine_str (made_small h) (Nat.le_trans (made_ok h).2.1 (by decide))
theorem wordS_len (z : Str) : (z ++ (" " : Str)).length = z.length + 1 := by
  have e : (z ++ (" " : Str)).cps.toList = z.cps.toList ++ [32] := app_list z " "
  have e1 : (z ++ (" " : Str)).cps.toList.length = (z ++ (" " : Str)).length := by simp [Str.length]
  have e2 : z.cps.toList.length = z.length := by simp [Str.length]
  rw [← e1, e, List.length_append, e2]; rfl
theorem fine_wordS {z : Str} (h : madeB small (.str z) = true) : Fine (.str (z ++ (" " : Str))) := fine_str (fun c hc => by
  rw [show (z ++ (" " : Str)).cps.toList = z.cps.toList ++ [32] from app_list z " "] at hc
  rcases List.mem_append.mp hc with hc | hc
  · exact made_small h c hc
  · rw [List.mem_singleton.mp hc]; decide) (by rw [wordS_len]; have := (made_ok h).2.1; omega)
theorem fine_one {z : Str} (h : madeB small (.str z) = true) : Fine (.tuple [.str z]) ∧ Fine (.list [.str z]) := by
  have f := fine_word h
  have hw : (PyData.str z).weight ≤ 8 := (made_ok h).2.1
  have l : (PyData.leavesShort 60 (.str z) && PyData.leavesShortAll 60 []) = true := by rw [f.l]; rfl
  have w : (PyData.str z).weight + 1 + 0 ≤ 1000 := by omega
  exact ⟨⟨l, w, (by decide : max 0 0 + 1 ≤ 10), rfl⟩, ⟨l, w, (by decide : max 0 0 + 1 ≤ 10), rfl⟩⟩
section
variable {s s' s1 s2 : Sls} {r r' r1 r2 r3 rc rest pre post : Rs} {ta tb te tv td : TE} {t tr tk : TA} {c c2 : TT} {P Q R : Pr} {K : PySem.W.Frag} {Ω Φ : Pr → Rs → Prop} {Ps Qs Zs : List Pr} {e : Ent} {po : Po} {ts us : TS} {i j : Int} {E : XK} {z z' : Str}
theorem ev_notInLS {zs : List Str} (ha : Ev s r ta (rStr z) r1) (hb : Ev s r1 tb (rLp (zs.map rStr)) r2) : Ev s r (tOp (rIn K true) ta tb) (rBl (!decide (z ∈ zs))) r2 := ev_op ha hb fun G H x y sm hx ⟨_, b, ws, e2, h2, q2⟩ W w => by
  have f2 := all2_strs q2
  have hx : x = .str z := hx
  subst f2 e2 hx
  refine ⟨b, _, rfl, .inl (SqL.of (sm _ _ h2)), rfl, by rw [List.all_map]; exact List.all_eq_true.mpr fun _ _ => rfl, w _ ?_⟩
  show V.bl (!inV (.str z) (zs.map V.str)) = V.bl (!decide (z ∈ zs))
  congr 2
  unfold inV
  rw [List.any_map]
  rw [Bool.eq_iff_iff, List.any_eq_true, decide_eq_true_eq]
  refine ⟨fun ⟨y, hy, h⟩ => ?_, fun h => ⟨z, h, by simp [eqV]⟩⟩
  have h : (y == z) = true := by simpa [eqV] using h
  rw [← eq_of_beq h]
  exact hy
theorem all2_intsV {G : Hp} {vs : List V} {ns : List Int} (h : All2 G vs (ns.map rInt)) : vs = ns.map V.int := all2_ints h
theorem ev_inLI {ns : List Int} (ha : Ev s r ta (rInt i) r1) (hb : Ev s r1 tb (rLp (ns.map rInt)) r2) : Ev s r (tOp (rIn K false) ta tb) (rBl (decide (i ∈ ns))) r2 := ev_op ha hb fun G H x y sm hx ⟨_, b, ws, e2, h2, q2⟩ W w => by
  have f2 := all2_ints q2
  have hx : x = .int i := hx
  subst f2 e2 hx
  refine ⟨b, _, rfl, .inl (SqL.of (sm _ _ h2)), rfl, by rw [List.all_map]; exact List.all_eq_true.mpr fun _ _ => rfl, w _ ?_⟩
  show V.bl (inV (.int i) (ns.map V.int)) = V.bl (decide (i ∈ ns))
  congr 1
  unfold inV
  rw [List.any_map]
  rw [Bool.eq_iff_iff, List.any_eq_true, decide_eq_true_eq]
  refine ⟨fun ⟨y, hy, h⟩ => ?_, fun h => ⟨i, h, by simp [eqV]⟩⟩
  have h : y = i := by simpa [eqV] using h
  rw [← h]
  exact hy
/-- a draw from a list, in the law's walk -/
theorem ex_any {x : Addr × Co} {p : Addr} {B : Int} {n : Nat} (hp : s[n]? = some (some (rAt p))) (h2 : Ev s (x :: (p, cPot B) :: rest) te (rLs K Qs) (x :: (p, cPot B) :: rest)) (h1 : 1 ≤ Qs.length) (h3 : Qs.length < 1000) (hB : B ≤ 100000) (k : ∀ P ∈ Qs, Ω P (x :: (p, cPot (B + 1)) :: rest)) :
    EvX s (x :: (p, cPot B) :: rest) (tCall (spM (S_any K)) [] E (tCons (tVar n) (tCons te tNil))) Ω := by
  refine EvX.permK (ex_callA (Ω := fun P r' => P ∈ Qs ∧ r' = (p, cPot (B + 1)) :: x :: rest) (exa_of (ea_cons (ev_var hp) (ea_cons h2 ea_nil)) ⟨[(p, cPot B)], x :: rest, _, List.Perm.swap _ _ _, ⟨p, _, B, rfl, rfl, hB, .inl ⟨Qs, rfl, h1, h3, rfl⟩⟩, ?_⟩)) ?_
  · rintro P r' ⟨h, rfl⟩
    exact ⟨h, rfl⟩
  · rintro P r' ⟨h, rfl⟩
    exact ⟨_, List.Perm.swap _ _ _, k P h⟩
theorem ex_drawK {x : Addr × Co} {p : Addr} {B m : Int} {n : Nat} (hp : s[n]? = some (some (rAt p))) (h2 : Ev s (x :: (p, cPot B) :: rest) te (rInt m) (x :: (p, cPot B) :: rest)) (h1 : 1 ≤ m) (h3 : m < 1073741824) (hB : B ≤ 100000) (k : ∀ d : Int, 0 ≤ d → d < m → Ω (rInt d) (x :: (p, cPot (B + 1)) :: rest)) :
    EvX s (x :: (p, cPot B) :: rest) (tCall (spM S_draw) [] E (tCons (tVar n) (tCons te tNil))) Ω := by
  refine EvX.permK (ex_callA (Ω := fun P r' => ∃ d : Int, P = rInt d ∧ (0 ≤ d ∧ d < m) ∧ r' = (p, cPot (B + 1)) :: x :: rest) (exa_of (ea_cons (ev_var hp) (ea_cons h2 ea_nil)) ⟨[(p, cPot B)], x :: rest, _, List.Perm.swap _ _ _, ⟨p, m, B, rfl, rfl, h1, h3, hB, rfl⟩, ?_⟩)) ?_
  · rintro P r' ⟨d, h1, h2, rfl⟩
    exact ⟨d, h1, h2, rfl⟩
  · rintro P r' ⟨d, rfl, h2, rfl⟩
    exact ⟨_, List.Perm.swap _ _ _, k d h2.1 h2.2⟩
end
/-- Spans(..), what is in it untold -/
theorem ev_spans {s : Sls} {r r1 : Rs} {t : TA} {A : Ad} {K : PySem.W.Frag} {E : XK} (ps : List (Int × Int)) (h : EvA s r t (ps.map (rPs K)) r1) (hp : ∀ p ∈ ps, okP p) (hz : ps.length ≤ 1000) : Ev s r (tMakeR A.c_Spans (spSt (S_Spans_init A K)) E t) (rSv A K .sp) r1 :=
  ev_makeS (ns := nsSpans) (Φ := fun x P r' => P = rNon ∧ ∃ Qs, r' = [(x, cOb A.c_Spans nsSpans Qs)]) h (by rw [List.length_map]; exact Nat.le_trans hz (by decide)) (fun x => ⟨x, ps, rfl, hz, hp, rfl, rfl, rfl⟩) fun x P r' ⟨e1, Qs, e2⟩ => ⟨e1, Qs, e2, fun G v ⟨a, dx, vs, e, h, _⟩ => ⟨a, dx, _, e, h⟩⟩
def svD : Sv → PyData
  | .dat d => d
  | .sp => .none
/-- what the law holds due of an ask -/
def dueD (cs : Cs) (n : Int) (dc : PyData) (sv : Sv) (dO : PyData) : PyData :=
  if copyB cs dc = true then (if spB sv = true then (if onlyB dO = true then .tuple [.str "told", .int n] else .tuple [.str "word", dO]) else .tuple [.str "spans", svD sv]) else .tuple [.str "copy", dc]
theorem copyB_in {cs : Cs} (z : Str) : copyB cs (.str z) = decide (z ∈ cs.map (·.1)) := by
  show (cs.lookup z).isSome = _
  induction cs with
  | nil => rfl
  | cons c cs ih =>
    obtain ⟨a, b⟩ := c
    rw [List.lookup_cons]
    by_cases h : z = a
    · subst h; simp
    · have : (z == a) = false := beq_eq_false_iff_ne.mpr h
      rw [this]
      simp only []
      rw [ih]
      simp [h]
theorem flat3 {α : Type} {l : List α} {n : Nat} {x : α} (h : x ∈ (List.replicate n l).flatten) : x ∈ l := by
  obtain ⟨m, hm, hx⟩ := List.mem_flatten.mp h
  rw [List.eq_of_mem_replicate hm] at hx
  exact hx
/-! ### the law's walk -/
def tq (x : Str) : Str := (x ++ (".<locals>." : Str)) ++ ("<lambda>" : Str)
def cMod (t n : Int) (op : List Int) : Co := cLs [rInt t, rInt n, rLp (op.map rInt)]
structure Kst (n : Int) (op : List Int) (k1 : List (Key × Pr)) : Prop where
  ks : k1.map (·.1) = op.map Sum.inl
  up : op.Pairwise (· < ·)
  lt : ∀ x ∈ op, 0 ≤ x ∧ x < n
  n0 : 0 ≤ n
  n5 : n ≤ 50
  len : (op.length : Int) ≤ n
theorem Kst.at_ {n : Int} {op : List Int} {k1 : List (Key × Pr)} (h : Kst n op k1) (i : Int) : (valP k1 (.inl i)).isSome = decide (i ∈ op) := by
  have key : ∀ (k1 : List (Key × Pr)) (op : List Int), k1.map (·.1) = op.map Sum.inl → (valP k1 (.inl i)).isSome = decide (i ∈ op) := fun k1 => by
    induction k1 with
    | nil =>
      intro op h
      cases op with
      | nil => rfl
      | cons a op => cases h
    | cons kv k1 ih =>
      intro op h
      cases op with
      | nil => cases h
      | cons a op =>
        rw [List.map_cons, List.map_cons, List.cons.injEq] at h
        have ih := ih op h.2
        unfold valP at ih ⊢
        by_cases c : kv.1 = Sum.inl i
        · rw [List.find?_cons_of_pos (by simpa using c)]
          have : a = i := by rw [h.1] at c; exact Sum.inl.inj c
          simp [this]
        · rw [List.find?_cons_of_neg (by simpa using c), ih]
          have ne : i ≠ a := fun e => c (by rw [h.1, e])
          simp [ne]
  exact key k1 op h.ks
theorem Kst.ask {n : Int} {op : List Int} {k1 : List (Key × Pr)} (h : Kst n op k1) (hn : n < 50) (P : Pr) : Kst (n + 1) (op ++ [n]) (putP k1 (.inl n) P) where
  ks := by
    have hm : n ∉ op := fun q => by have := (h.lt n q).2; omega
    rw [putP_new (by rw [h.ks]; intro q; obtain ⟨y, hy, e⟩ := List.mem_map.mp q; exact hm (by rw [← Sum.inl.inj e]; exact hy)), List.map_append, List.map_append, h.ks]
    rfl
  up := List.pairwise_append.mpr ⟨h.up, List.pairwise_singleton _ _, fun a ha b hb => by rw [List.mem_singleton.mp hb]; exact (h.lt a ha).2⟩
  lt := fun x hx => by
    rcases List.mem_append.mp hx with q | q
    · have := h.lt x q; omega
    · rw [List.mem_singleton.mp q]; have := h.n0; omega
  n0 := by have := h.n0; omega
  n5 := by omega
  len := by rw [List.length_append, List.length_singleton]; have := h.len; omega
theorem Kst.lost {n : Int} {op : List Int} {k1 : List (Key × Pr)} (h : Kst n op k1) (i : Int) : Kst n (op.filter fun x => !decide (x = i)) (dropP k1 (.inl i)) where
  ks := by
    have key : ∀ (k1 : List (Key × Pr)) (op : List Int), k1.map (·.1) = op.map Sum.inl → (dropP k1 (.inl i)).map (·.1) = (op.filter fun x => !decide (x = i)).map Sum.inl := fun k1 => by
      induction k1 with
      | nil =>
        intro op h
        cases op with
        | nil => rfl
        | cons a op => cases h
      | cons kv k1 ih =>
        intro op h
        cases op with
        | nil => cases h
        | cons a op =>
          rw [List.map_cons, List.map_cons, List.cons.injEq] at h
          have ih := ih op h.2
          unfold dropP at ih ⊢
          by_cases c : kv.1 = Sum.inl i
          · have : a = i := by rw [h.1] at c; exact Sum.inl.inj c
            rw [List.filter_cons_of_neg (by simpa using c), List.filter_cons_of_neg (by simpa using this)]
            exact ih
          · have ne : ¬ a = i := fun e => c (by rw [h.1, e])
            rw [List.filter_cons_of_pos (by simpa using c), List.filter_cons_of_pos (by simpa using ne), List.map_cons, List.map_cons, ih, h.1]
    exact key k1 op h.ks
  up := h.up.filter _
  lt := fun x hx => h.lt x (List.mem_filter.mp hx).1
  n0 := h.n0
  n5 := h.n5
  len := Int.le_trans (by have := List.length_filter_le (fun x => !decide (x = i)) op; omega) h.len
def rsK (A : Ad) (K : PySem.W.Frag) (cs : Cs) (Pp : Pr) (k p m T : Addr) (q : Str) (B t n : Int) (op : List Int) (k1 : List (Key × Pr)) : Rs := [(k, cKee A K cs Pp t n k1), (p, cPot B), (m, cMod t n op), (T, cTab q)]
def S_asked (A : Ad) (K : PySem.W.Frag) (T : Addr) : Spec := fun Ps r Φ => ∃ (p k m : Addr) (cs : Cs) (Pp : Pr) (B t n : Int) (op : List Int) (k1 : List (Key × Pr)), Ps = [rAt p, rAt k, rAt m] ∧ r = rsK A K cs Pp k p m T (tq "_law_asked_right") B t n op k1 ∧ CsGood cs ∧ Kst n op k1 ∧ n < 50 ∧ B ≤ 90000 ∧
  Φ = fun P r' => P = rBl true ∧ ∃ t' n' op' k1', Kst n' op' k1' ∧ r' = rsK A K cs Pp k p m T (tq "_law_asked_right") (B + 3) t' n' op' k1'
def rsC (A : Ad) (K : PySem.W.Frag) (cs : Cs) (Pp : Pr) (k p m Ta Tc : Addr) (B t n : Int) (op : List Int) (k1 : List (Key × Pr)) : Rs := [(k, cKee A K cs Pp t n k1), (p, cPot B), (m, cMod t n op), (Ta, cTab (tq "_law_asked_right")), (Tc, cTab (tq "_law_call_right"))]
def S_callr (A : Ad) (K : PySem.W.Frag) (Ta Tc : Addr) : Spec := fun Ps r Φ => ∃ (p k m : Addr) (cs : Cs) (Pp : Pr) (B t n : Int) (op : List Int) (k1 : List (Key × Pr)), Ps = [rAt p, rAt k, rAt m] ∧ r = rsC A K cs Pp k p m Ta Tc B t n op k1 ∧ CsGood cs ∧ Kst n op k1 ∧ B ≤ 80000 ∧
  Φ = fun P r' => P = rBl true ∧ ∃ t' n' op' k1', Kst n' op' k1' ∧ r' = rsC A K cs Pp k p m Ta Tc (B + 4) t' n' op' k1'
section
variable {s s' s1 s2 : Sls} {r r' r1 r2 r3 rc rest pre post : Rs} {ta tb te tv td : TE} {t tr tk : TA} {P Q R : Pr} {K : PySem.W.Frag} {Ω Φ : Pr → Rs → Prop} {Ψ : Addr → Pr → Rs → Prop} {Ps Qs Zs : List Pr} {e : Ent} {po : Po} {z z' : Str} {T : Addr} {q : Str}
theorem rv_eqS : RVp rEq (rStr z) (rStr z') (rBl (decide (z = z'))) := fun G H x y _ hx hy W w => by
  rw [show x = .str z from hx, show y = .str z' from hy]
  refine ⟨rfl, w _ ?_⟩
  show V.bl _ = V.bl _
  congr 1
  exact decide_eq_decide.mpr ⟨fun h => V.str.inj h, fun h => h ▸ rfl⟩
theorem ex_reprK (h : EvX s r te fun P r1 => ∃ ds, P = rDq K (.tuple ds) ∧ ((PyData.tuple ds).showable = true ∧ (PyData.tuple ds).depth ≤ 60 ∧ (PyData.tuple ds).shown.length ≤ sizeLine) ∧ Ω (rStr (PyData.tuple ds).shown) r1) : EvX s r (tCB (rReprQ K) (tCons te tNil)) Ω := fun e G H σ m l W w => h e G H σ m l _ fun x G1 H1 P r1 ⟨ds, e1, hh, k⟩ m1 g1 px => by
  subst e1
  cases (show Dq K G1 x (.tuple ds) from px) with
  | tup e q => exact ⟨_, _, ds, _, rfl, DqA.same m1.sub q, .inr ⟨SqT.ext e m1.sub, rfl⟩, hh.1, hh.2.1, hh.2.2, w _ G1 H1 _ r1 k m1 g1 rfl⟩
/-- return repr(caught(lambda: ..)) == repr(due), where both are the same -/
theorem ok_lamret {tbl : List (Addr × Str)} {tt : XK → TE} {dw : Str} {dd : PyData} {R2 : Rs} (pre : Rs) (hr : r = pre ++ [(T, cTab q)]) (h : ∀ e E, XLe e Ψ E → EvXe e s r (tt E) Φ) (hΦ : ∀ P r', Φ P r' → dw = "told" ∧ (∀ G v, P.p G v → (rDq K dd).p G v) ∧ r' = R2)
    (hΨ : ∀ C P r', Ψ C P r' → (C, dw) ∈ tbl ∧ (∀ G v, P.p G v → (rDq K dd).p G v) ∧ r' = R2) (fw : Fine (.str dw)) (fd : Fine dd) (hdue : ∀ r, Ev s r tb (rDq K (.tuple [.str dw, dd])) r) (k : po.rt (rBl true) R2) :
    Ok e s r (tRet (tOp rEq (tCB (rReprQ K) (tCons (tLamC T q (TTc tbl) tt) tNil)) (tCB (rReprQ K) (tCons tb tNil)))) po := by
  have f2 := fine_pair fw fd
  have rest : EvX s R2 (tCB (rReprQ K) (tCons tb tNil)) fun Q r2 => ∃ R, RVp rEq (rStr (PyData.tuple [.str dw, dd]).shown) Q R ∧ po.rt R r2 :=
    ex_of (ev_repr (ea_cons (hdue R2) ea_nil) f2.1 f2.2.1 f2.2.2) ⟨_, rv_eqS, by rw [decide_eq_true rfl]; exact k⟩
  refine ok_retK (ex_op2 (ex_reprK (ex_lam (K := K) pre [] hr h (fun P r' f => ?_) fun C P r' f => ?_)))
  · obtain ⟨h1, h2, h3⟩ := hΦ P r' f
    subst h1 h3
    exact ⟨dd, h2, _, rfl, f2, rest⟩
  · obtain ⟨h1, h2, h3⟩ := hΨ C P r' f
    subst h3
    exact ⟨dw, dd, h1, h2, _, rfl, f2, rest⟩
theorem ex_lcFp {α : Type} {R : α → Pr} {xs : List α} {s : Sls} {r r1 : Rs} {wi : TI} {g : TG} {te : TE} {tt : TT} {vs : List Nat} {Ω : Pr → Rs → Prop} (f : α → Pr) (p : α → Bool) (hi : EvI s r wi (xs.map R) r1)
    (ht : xs.length ≤ sizeLine → ∀ x ∈ xs, ∃ s2 ws, Bg g (R x) (wipeS s vs) s2 ws ∧ (∀ w ∈ ws, w ∈ vs) ∧ EvT s2 r1 tt (p x) r1 ∧ Ev s2 r1 te (f x) r1) (k : Ω (rLp ((xs.filter p).map f)) r1) : EvX s r (tLc wi g tt te vs) Ω := by
  refine ex_lcX (eix_of hi) (fun _ i acc r' => acc = ((xs.take i).filter p).map f ∧ r' = r1) (fun _ => ⟨rfl, rfl⟩) (fun _ z i P acc r' hP ⟨ha, hr⟩ => ?_) fun _ acc r' ⟨ha, hr⟩ => ?_
  · subst hr
    rw [List.length_map] at z
    rw [List.getElem?_map] at hP
    obtain ⟨x, hx, rfl⟩ := Option.map_eq_some_iff.mp hP
    obtain ⟨s2, ws, bg, hw, h0, h1⟩ := ht z x (List.mem_of_getElem? hx)
    have st : (xs.take (i + 1)).filter p = (xs.take i).filter p ++ (if p x = true then [x] else []) := by
      rw [List.take_add_one, hx, List.filter_append]
      congr 1
      by_cases c : p x = true
      · simp [c]
      · simp [c]
    refine ⟨s2, ws, bg, hw, ext_of h0 ⟨fun c => ex_of h1 ⟨?_, rfl⟩, fun c => ⟨?_, rfl⟩⟩⟩
    · rw [ha, st, if_pos c, List.map_append]; rfl
    · rw [ha, st, if_neg (by rw [c]; decide), List.append_nil]
  · subst hr
    rw [List.length_map, List.take_length] at ha
    rw [ha]
    exact k
theorem ok_tgK1 {g : TG} (h : EvX s r te fun P r1 => ∃ s2 r2, Tg K g P s r1 s2 r2 ∧ po.nx s2 r2) : Ok e s r (tAsg te g) po := fun G H σ m l D d => h e G H σ m l _ fun v G1 H1 P r1 ⟨s2, r2, b, k⟩ m1 g1 pv => b e G1 H1 σ v m1 (l.mono g1) pv _ fun σ' G2 H2 m2 g2 l2 => d.nx _ _ _ _ _ k m2 (g1.trans g2) l2
end
end FL

namespace S1
open PySem PySem.Spec PyProof.Rows L2 StX LamX
/-- as walkTG; what is known of the tables of the program's defs is handed on -/
theorem walkTH {l : PySem.W.OpenLaw} {n k : Nat} {q : Program} {loose : List Str} {XP : (Str → Option Value) → Heap → Prop} {YP : World → Heap → Prop} {d : DefRec} {K : Params → PySem.W.Frag} {x : Str} (hn : l.most = some n) (hn2 : n ≤ sizeLine) (hdf : d.params.defaults = []) (hr : Room k callerA) (hY : ∀ (w : World) (h : Heap), YP w h → (K w.params).In h)
    (F : ∀ (w : World) (mg : Str → Option Value) (fa : Addr) (h : Heap), (∀ (y : Str) (c P : Addr) (e : DefRec), (recsOf q).find? (fun e => e.name == y) = some e → PySem.W.tabIn (K w.params) y = some (c, P) → PySem.W.CodeHd h c P ∧ h.get? P = some { cls := .none, data := .fields #[] }) → (K w.params).In h → h.Ns mainGlobals mg → mg d.name = some (.ref fa) → AtTG l w (K w.params) k n x mg fa h) : PySem.W.WalkO q loose XP YP l.row.toRowW d [] (fun f vs => PySem.call f vs) := by
  refine Att.attach_callB hn hdf fun w s₀ s₁ mg mb fa o pm cd doc a vs ns G Y ho hd hcd hmg hobj hints hlen hbits hg => ?_
  have KX := hY w _ Y
  obtain ⟨fd, cs, sp, c, bnd, wish, f⟩ := F w mg fa _ (fun y c P e h1 h2 => PySem.W.tab_of G.T KX h1 h2) KX G.T.g hmg
  exact law_runTG KX G.T.g G.T.b G.T.builtins G.T.nolimit hg (fun p hp => (c p hp).1) (fun p hp => (c p hp).2.1) (fun p hp => (c p hp).2.2) G.T.bmain hobj hints (Nat.le_trans hlen hn2) hr f bnd fun H hH hS => wish H a ns hlen hH hS
/-- where a def's code object and its table stand in K -/
theorem tabIn_mk {K : PySem.W.Frag} {x : Str} {f c P : Addr} {oc c1 : Value} {od c2 : Option Addr} {fd : FuncData} {sl c3 : Array (Option Value)} {vs : Array Value} (a : PySem.W.nsIn K mainGlobals x = some (some (.ref f))) (l : K.lookup f = some ⟨oc, od, .func fd, sl⟩) (hc : fd.code = .ref c) (lc : K.lookup c = some ⟨c1, c2, .fields vs, c3⟩) (hv : vs[11]? = some (.ref P)) : PySem.W.tabIn K x = some (c, P) := by
  unfold PySem.W.tabIn
  simp only [a, l, hc, lc, hv]
end S1

namespace FL
open PySem PySem.Spec PyProof.Rows L2 StX FN FT FS FZ
open S1 (Dq DqA rSortedTx cr_sortedTx tLamC Chg tMethN rReprQ call_reprQ FnG)
section
variable {s s' s1 s2 : Sls} {r r' r1 r2 r3 rc rest pre post : Rs} {ta tb te tv td : TE} {t tr tk : TA} {P Q R : Pr} {K : PySem.W.Frag} {Ω Φ : Pr → Rs → Prop} {Ps Qs Zs : List Pr} {e : Ent} {po : Po} {z z' : Str} {C : Addr} {S : SpecR} {i j : Int} {E : XK}
/-- C(..), default values behind: nothing is raised -/
theorem ex_makeRA {dvs : List V} (Ds : List Pr) (hD : ∀ G, All2 G dvs Ds) (h : EvXA s r t fun Ps r1 => ∃ (rc rest : Rs) (Φ : Addr → Pr → Rs → Prop) (Ψ : Addr → Addr → Pr → Rs → Prop), r1.Perm (rc ++ rest) ∧ (∀ x, S (rAt x :: (Ps ++ Ds)) ((x, cOb C [] []) :: rc) (Φ x) (Ψ x)) ∧ (∀ x D P r', Ψ x D P r' → False) ∧ ∀ x P r', Φ x P r' → P = rNon ∧ Ω (rAt x) (r' ++ rest)) :
    EvX s r (tMake C (spR S) dvs E0 t) Ω := fun e G H σ m l W w => h e G H σ m l _ fun vs G1 H1 Ps r1 ⟨rc, rest, Φ, Ψ, pm, hS, hN, k⟩ m1 g1 al => by
  intro x dx hX hdx ne
  have m1 := m1.perm pm
  have m2 := m1.hid (o := .own x) hdx
  have hx2 : (upd H1 dx (.own x)) x = none := by rw [upd_ne (Ne.symm ne)]; exact hX
  have m3 := m2.own (o := .ins C dx []) (C := cOb C [] []) hx2 ⟨dx, [], rfl, rfl, .nil⟩
  have m4 : Mv e G1 (upd (upd H1 dx (.own x)) x (.ins C dx [])) (((x, cOb C [] []) :: rc) ++ rest) := m3
  exact ⟨G1, _, _, Φ x, Ψ x, hS x, .cons rfl (al.app (hD G1)), m4.drop.self, fun v G3 H3 P r' f m5 pv => by
    obtain ⟨rfl, k'⟩ := k x P r' f
    exact ⟨pv, w (.ref x) G3 H3 _ _ k' (m4.trans m5) (g1.trans m5.gg) rfl⟩, fun D P r' G' H' d v f => (hN x D P r' f).elim⟩
/-- a new list to be written -/
theorem ex_newLs (h : EvA s r t Ps r1) (hz : Ps.length ≤ 1000) (k : ∀ a, Ω (rAt a) ((a, cLs Ps) :: r1)) : EvX s r (tLst t) Ω := fun e G H σ m l W w => h e G H σ m l _ fun vs G1 H1 m1 g1 al => ⟨by rw [al.len]; exact Nat.le_trans hz (by decide), fun p hp => w _ G1 _ _ _ (k p) (m1.own hp ⟨Nat.le_trans hz (by decide), vs, rfl, al⟩) g1 rfl⟩
theorem dp_ints {G : Hp} : ∀ {vs : List V} {ns : List Int}, All2 G vs (ns.map rInt) → DpAll K G vs (ns.map PyData.int)
  | _, [], h => by cases h; exact .nil
  | _, n :: ns, h => by
    rw [List.map_cons] at h
    cases h with
    | cons a t =>
      have a : _ = V.int n := a
      subst a
      exact .cons (.int n) (dp_ints t)
def dKr (t : Int) (op : List Int) : PyData := .list [.int t, .tuple (op.map PyData.int), .tuple []]
theorem dp_kr {G H : Hp} {v : V} {t : Int} {op : List Int} (sm : Same G H) (h : (rLs K [rInt t, rTs K (op.map rInt), rTs K []]).p G v) : Dp K H v (dKr t op) := by
  obtain ⟨_, a, vs, e, hs, al⟩ := h
  subst e
  refine .lst (sm.seq hs) ?_
  cases al with
  | cons x al => cases al with
    | cons y al => cases al with
      | cons z al =>
        cases al
        have x : _ = V.int t := x
        subst x
        obtain ⟨_, b, ws, rfl, hb, q⟩ := y
        obtain ⟨_, c, us, rfl, hc, q2⟩ := z
        cases q2
        exact .cons (.int t) (.cons (.tup (SqT.ext hb sm) (dp_ints (q.mono sm))) (.cons (.tup (SqT.ext hc sm) .nil) .nil))
theorem lay_ints : ∀ ns : List Int, PyData.canLayAll0 (ns.map PyData.int) = true ∧ PyData.depthAll (ns.map PyData.int) = 0 ∧ PyData.eqvAll (ns.map PyData.int) (ns.map PyData.int) = true
  | [] => ⟨rfl, rfl, by simp only [List.map_nil, PyData.eqvAll]⟩
  | n :: ns => by
    obtain ⟨h1, h2, h3⟩ := lay_ints ns
    simp only [List.map_cons, PyData.canLayAll0, PyData.canLay0, PyData.depthAll, PyData.depth, PyData.eqvAll, PyData.eqv, h1, h2, h3, beq_self_eq_true, Bool.and_self, Nat.max_self, and_self]
theorem shaped_kr (t : Int) (op : List Int) : SeqAt.shaped (dKr t op) = true := by
  obtain ⟨h1, h2, _⟩ := lay_ints op
  show (PyData.canLay0 _ && decide (PyData.depth _ ≤ 64)) = true
  have e1 : PyData.canLay0 (dKr t op) = true := by
    unfold dKr
    simp only [PyData.canLay0, PyData.canLayAll0, h1, Bool.and_self]
  have e2 : PyData.depth (dKr t op) ≤ 64 := by
    unfold dKr
    simp only [PyData.depth, PyData.depthAll, h2]
    decide
  rw [e1, decide_eq_true e2]
  rfl
theorem eqv_kr (t : Int) (op : List Int) : PyData.eqv (dKr t op) (dKr t op) = true := by
  obtain ⟨_, _, h3⟩ := lay_ints op
  unfold dKr
  simp only [PyData.eqv, PyData.eqvAll, h3, beq_self_eq_true, Bool.and_self]
theorem ev_neKr {t : Int} {op : List Int} (ha : Ev s r ta (rLs K [rInt t, rTs K (op.map rInt), rTs K []]) r1) (hb : Ev s r1 tb (rLs K [rInt t, rTs K (op.map rInt), rTs K []]) r2) : Ev s r (tOp (rNeD K) ta tb) (rBl false) r2 := ev_op ha hb fun G H x y sm hx hy W w =>
  ⟨_, _, dp_kr sm hx, dp_kr sm hy, shaped_kr t op, shaped_kr t op, w _ (by rw [eqv_kr]; rfl)⟩
theorem ev_min (h : EvA s r t [rInt i, rInt j] r1) : Ev s r (tCB (fun xs H Q => ∃ i j, xs = [.int i, .int j] ∧ Q (.int (if j < i then j else i)) H) t) (rInt (if j < i then j else i)) r1 := ev_cb h fun G H vs sm al W w => by
  cases al with
  | cons a al => cases al with
    | cons b al =>
      cases al
      exact ⟨i, j, by rw [show _ = V.int i from a, show _ = V.int j from b], w _ rfl⟩
theorem ok_weakR {ts : TS} (h : Ok e s rc ts po) (p : r.Perm (rc ++ rest)) : Ok e s r ts po := Ok.perm (Ok.less h) p
end
theorem Lo.setN {x : Option Pr} : ∀ {a b : Sls} (i : Nat), Lo a b → a[i]? = some none → Lo a (b.set i x)
  | _, _, i, .nil, h => by simp at h
  | _, _, 0, .keep _, h => by simp at h
  | _, _, 0, .skip l, _ => .skip l
  | _, _, i + 1, .keep l, h => .keep (Lo.setN i l (by simpa using h))
  | _, _, i + 1, .skip l, h => .skip (Lo.setN i l (by simpa using h))
theorem ev_kget {A : Ad} {K : PySem.W.Frag} {R : Cs → Pr → Int → Int → List (Key × Pr) → Pr → Prop} {s : Sls} {rest : Rs} {k : Addr} {cs : Cs} {Pp P0 : Pr} {t n : Int} {k1 : List (Key × Pr)} {i : Nat} {E : XK} (hi : s[i]? = some (some (rAt k))) (h : R cs Pp t n k1 P0) :
    Ev s ((k, cKee A K cs Pp t n k1) :: rest) (tProp A.c_Keeper (spM (S_Kget A K R)) [] E (tVar i)) P0 ((k, cKee A K cs Pp t n k1) :: rest) := EvX.ev (ex_prop (rc := [(k, cKee A K cs Pp t n k1)]) (rest := rest) (ev_var hi) List.mem_cons_self ⟨k, cs, Pp, t, n, k1, P0, rfl, h, rfl, rfl⟩) fun P' r'' ⟨r1, ⟨h1, h2⟩, h3⟩ => ⟨h1, by rw [h3, h2]; rfl⟩
def S_right (A : Ad) (Ta Tc : Addr) : Spec := fun Ps r Φ => ∃ p : Addr, Ps = [rAt p] ∧ r = [(p, cPot 0), (Ta, cTab (tq "_law_asked_right")), (Tc, cTab (tq "_law_call_right"))] ∧ Φ = fun P r' => P = rBl true ∧ r' = [(Ta, cTab (tq "_law_asked_right")), (Tc, cTab (tq "_law_call_right"))]
def S_law (K : PySem.W.Frag) (Ta Tc : Addr) : Spec := fun Ps r Φ => ∃ ns : List Int, Ps = [rLs K (ns.map rInt)] ∧ ns.length ≤ 63 ∧ r = [(Ta, cTab (tq "_law_asked_right")), (Tc, cTab (tq "_law_call_right"))] ∧ Φ = fun P r' => P = rBl true
theorem wish_law {K : PySem.W.Frag} {Ta Tc : Addr} (ne : Ta ≠ Tc) (nT : K.lookup Ta = none) (nC : K.lookup Tc = none) {H : Hp} {a : Addr} {ns : List Int} (hn : ns.length ≤ 63) (h1 : H Ta = some (.tbl #[])) (h2 : H Tc = some (.tbl #[])) (hS : SqL K H a (ns.map V.int)) :
    spM (S_law K Ta Tc) [.ref a] H (fun v _ => v = .bl true) fun _ _ _ => False := by
  let G : Hp := fun b => if b = Ta ∨ b = Tc then none else H b
  have gs : Same G H := fun b o q => by
    show H b = some o
    have q : (if b = Ta ∨ b = Tc then none else H b) = some o := q
    by_cases c : b = Ta ∨ b = Tc
    · rw [if_pos c] at q; cases q
    · rw [if_neg c] at q; exact q
  have ga : ∀ o, (∀ ps, o ≠ HO.tbl ps) → H a = some o → G a = some o := fun o no q => by
    show (if a = Ta ∨ a = Tc then none else H a) = some o
    rw [if_neg]
    · exact q
    · rintro (e | e)
      · rw [e, h1] at q; exact no _ (Option.some.inj q).symm
      · rw [e, h2] at q; exact no _ (Option.some.inj q).symm
  have gS : SqL K G a (ns.map V.int) := by
    rcases hS with (q | ⟨od, q⟩) | q
    · exact .inl (.inl (ga _ (fun ps z => by cases z) q))
    · exact .inl (.inr ⟨od, ga _ (fun ps z => by cases z) q⟩)
    · exact .inr q
  have gT : G Ta = none := if_pos (.inl rfl)
  have gC : G Tc = none := if_pos (.inr rfl)
  have tab : ∀ q, (cTab q).p G (.tbl #[]) := fun q => ⟨#[], rfl, True.intro, fun pos cv z => by
    have z : codeAmong pos [] = some cv := z
    simp [codeAmong] at z⟩
  refine ⟨G, _, _, _, ⟨ns, rfl, hn, rfl, rfl⟩, .cons ⟨by rw [List.length_map]; exact Nat.le_trans hn (by decide), a, _, rfl, gS, all2_ofInts ns⟩ .nil, ⟨Same.refl _, fun _ _ q _ => q, gs, fun _ _ q => .inl q, fun x hx => ?_, ?_⟩, fun v G' H' P r' f m pv => ?_⟩
  · rcases List.mem_cons.mp hx with e | hx
    · subst e
      exact ⟨_, h1, tab _, gT, .inl List.mem_cons_self⟩
    · rcases List.mem_cons.mp hx with e | hx
      · subst e
        exact ⟨_, h2, tab _, gC, .inl (List.mem_cons_of_mem _ List.mem_cons_self)⟩
      · cases hx
  · exact List.nodup_cons.mpr ⟨fun h => ne (List.mem_singleton.mp h), List.nodup_cons.mpr ⟨List.not_mem_nil, List.nodup_nil⟩⟩
  · have f : P = rBl true := f
    subst f
    exact pv
end FL

/-! Tuples as they are made: plain ones (k85). -/
namespace FP
open PySem PySem.Spec PyProof.Rows L2 StX FN FT FS FZ
section
variable {X : Cx} {e : Expr} {es : List Expr} {te : TE} {t : TA} {pos : Pos}
def tTupF (t : TA) : TE := fun σ H Q => t σ H fun xs H1 => xs.length ≤ sizeLine ∧ ∀ p od, od.dict = none → H1 p = none → Q (.ref p) (upd H1 p (.frz od (.tup xs)))
theorem pe_tupF {x1} (h : PA X es t) : PE X (.Tuple es x1 pos) (tTupF t) := by
  refine ⟨fun pins s σ H Q I hq => ?_⟩
  refine wpAny_Tuple_spliced (thn (h.run pos pins s σ H _ I hq) fun us s1 ⟨xs, H1, I1, r, z, q⟩ => ⟨by rw [← r.length]; exact z, ?_⟩)
  have hf : H1 s1.heap.objs.size = none := I1.hok.fresh (Nat.le_refl _)
  refine ⟨.ref s1.heap.objs.size, upd H1 s1.heap.objs.size (.frz { cls := .type "tuple", data := .seq us.toArray } (.tup xs)), I1.laid (t' := s1.toks) (fun b u e => Heap.get?_push_of_some _ e) (Nat.le_refl _) ⟨Heap.get?_push_size _ rfl, z, us, r, ⟨_, Heap.get?_push_size _ rfl, rfl, _, rfl⟩⟩, rfl, q _ _ rfl hf⟩
/-- t + u -/
def rCatF (K : PySem.W.Frag) : R2 := fun x y H Q => ∃ a b xs ys, x = .ref a ∧ y = .ref b ∧ SqT K H a xs ∧ SqT K H b ys ∧ xs.length + ys.length ≤ sizeLine ∧
  (xs = [] → Q (.ref b) H) ∧ (xs ≠ [] → ys = [] → Q (.ref a) H) ∧ (xs ≠ [] → ys ≠ [] → ∀ p od, od.dict = none → H p = none → Q (.ref p) (upd H p (.frz od (.tup (xs ++ ys)))))
theorem op_catF : OpR X (binaryOp .Add) (rCatF X.K) := by
  intro pins s σ H x y v u Q I rx ry h
  obtain ⟨a, b, xs, ys, rfl, rfl, ha, hb, hz, q0, q1, q2⟩ := h
  cases rx
  cases ry
  obtain ⟨its, r1, p1, _⟩ := I.tuple ha
  obtain ⟨its2, r2, p2, _⟩ := I.tuple hb
  by_cases hx : xs = []
  · subst hx
    cases r1
    exact cat_tup0 p1 p2 ⟨.ref b, H, I, rfl, q0 rfl⟩
  · refine HT.cat_tup p1 p2 (fun z => hx (r1.nil_iff.mp z)) (fun z => ⟨.ref a, H, I, rfl, q1 hx (r2.nil_iff.mp z)⟩) (fun z => ?_) (by rw [← r1.length, ← r2.length]; exact hz)
    refine ⟨.ref s.heap.objs.size, upd H s.heap.objs.size (.frz { cls := .type "tuple", data := .seq (its ++ its2).toArray } (.tup (xs ++ ys))), I.laid (t' := s.toks) (fun b ob q => Heap.get?_push_of_some _ q) (Nat.le_refl _) ⟨Heap.get?_push_size _ ?_, ?_⟩, rfl, q2 hx (fun w => z (r2.nil_iff.mpr w)) _ _ rfl (I.hok.fresh (Nat.le_refl _))⟩
    · first | rfl | simp
    · exact ⟨by rw [List.length_append]; exact hz, _, r1.append r2, IsTup.new _ _⟩
/-- t[::-1] -/
def tRevF (K : PySem.W.Frag) (te : TE) : TE := fun σ H Q => te σ H fun x H1 => ∃ a xs, x = .ref a ∧ SqT K H1 a xs ∧ ∀ p od, od.dict = none → H1 p = none → Q (.ref p) (upd H1 p (.frz od (.tup xs.reverse)))
theorem pe_revF {k : Nat} {p1 p2 p3 : Pos} (he : PE X e te) : PE X (.Subscript e (.Slice none none (some (.UnaryOp .USub (.Constant (.int 1) k p1) p2)) p3) pos) (tRevF X.K te) := by
  refine ⟨fun pins s σ H Q I h => ?_⟩
  refine Subscript_ (thn (he.run pins s σ H _ I h) fun v s1 ⟨x, H1, I1, r1, q1⟩ => ?_)
  obtain ⟨a, xs, ex, hx, q⟩ := q1
  subst ex
  cases r1
  have hst : PO X (some (.UnaryOp .USub (.Constant (.int 1) k p1) p2)) (tPart (tUn (rU fun i => .int (-i)) (tC (.int 1)))) := po_some (pe_un un_neg pe_int)
  refine wpAny_Slice (thn (po_none.run pins s1 σ H1 (fun o H2 => o = none ∧ H2 = H1) I1 ⟨rfl, rfl⟩) fun vl s2 ⟨l, H2, I2, pl, el, e2⟩ => ?_)
  subst el e2
  refine thn (po_none.run pins s2 σ H2 (fun o H3 => o = none ∧ H3 = H2) I2 ⟨rfl, rfl⟩) fun vu s3 ⟨u, H3, I3, pu, eu, e3⟩ => ?_
  subst eu e3
  refine thn (hst.run pins s3 σ H3 (fun o H4 => o = some (-1) ∧ H4 = H3) I3 ⟨1, rfl, -1, rfl, rfl, rfl⟩) fun vs s4 ⟨o, H4, I4, ps, eo, e4⟩ => ?_
  subst eo e4
  have I5 : Inv X pins σ H4 { s4 with heap := s4.heap.push { cls := .type "slice", data := .fields #[vl, vu, vs] } } := I4.kept (t' := s4.toks) fun b ob q => Heap.get?_push_of_some _ q
  obtain ⟨its, r, ht, hz⟩ := I5.tuple hx
  have hlen := r.length
  show wpAny (model X.prog X.w) X.A (subscriptTail e (.Slice none none (some (.UnaryOp .USub (.Constant (.int 1) k p1) p2)) p3) (.ref a) (.ref s4.heap.objs.size)) (EP X pins σ Q) X.xe { s4 with heap := s4.heap.push { cls := .type "slice", data := .fields #[vl, vu, vs] } }
  refine tail_any (ops := [.ref a, .ref s4.heap.objs.size]) ht.typeIs (PyProof.Rows.slot_tuple_getitem.lookup) ?_ (by with_unfolding_all rfl)
  refine S1.getItem_tuple_rev ht (Heap.IsSliceOf.new _ vl vu vs) pl pu ps ?_ (by omega)
  refine ⟨.ref _, _, I5.laid (t' := s4.toks) (o := .frz { cls := .type "tuple", data := .seq its.reverse.toArray } (.tup xs.reverse)) (fun b ob q => Heap.get?_push_of_some _ q) (Nat.le_refl _) ⟨Heap.get?_push_size _ rfl, ?_⟩, rfl, q _ _ rfl (I5.hok.fresh (Nat.le_refl _))⟩
  exact ⟨by rw [List.length_reverse]; exact hz, _, r.reverse, IsTup.new _ _⟩
end
end FP

/-! Who follows whom: chains that end (k85, k86). -/
namespace M2
/-- the chain from x ends within k names -/
def ends {α : Type} (f : α → Option α) : Nat → α → Bool
  | 0, _ => false
  | k + 1, x => match f x with
    | none => true
    | some y => ends f k y
/-- one round of the law's own reckoning: who follows none, or one that is known -/
def round {α : Type} [DecidableEq α] (f : α → Option α) (xs known : List α) : List α := xs.filter fun x => match f x with
  | none => true
  | some y => decide (y ∈ known)
def rounds {α : Type} [DecidableEq α] (f : α → Option α) (xs : List α) : Nat → List α
  | 0 => []
  | k + 1 => round f xs (rounds f xs k)
theorem rounds_eq {α : Type} [DecidableEq α] {f : α → Option α} {xs : List α} (h : ∀ x ∈ xs, ∀ y, f x = some y → y ∈ xs) : ∀ k, rounds f xs k = xs.filter (ends f k)
  | 0 => by
    show [] = xs.filter fun _ => false
    simp
  | k + 1 => by
    show round f xs (rounds f xs k) = _
    rw [rounds_eq h k]
    unfold round
    apply List.filter_congr
    intro x hx
    cases e : f x with
    | none => simp [ends, e]
    | some y =>
      have hy := h x hx y e
      simp [ends, e, List.mem_filter, hy]
theorem filter_all {α : Type} [DecidableEq α] {p : α → Bool} {xs : List α} : decide (xs.filter p = xs) = xs.all p := by
  by_cases h : xs.all p = true
  · rw [h, decide_eq_true_eq, List.filter_eq_self]
    exact List.all_eq_true.mp h
  · have h2 : xs.all p = false := by simpa using h
    rw [h2, decide_eq_false_iff_not, List.filter_eq_self]
    exact fun z => h (List.all_eq_true.mpr z)
/-- the law's test by rounds is the program's test by steps -/
theorem rounds_all {α : Type} [DecidableEq α] {f : α → Option α} {xs : List α} (h : ∀ x ∈ xs, ∀ y, f x = some y → y ∈ xs) (k : Nat) : decide (rounds f xs k = xs) = xs.all (ends f k) := by
  rw [rounds_eq h k, filter_all]
end M2

namespace FL
open PySem PySem.Spec PyProof.Rows L2 StX FN FT FS FZ FP
open S1 (Dq DqA rSortedTx cr_sortedTx tLamC Chg tMethN rReprQ call_reprQ FnG)
/-! ### data that may be copies of a keeper -/
def nmB (d : PyData) : Bool := madeB small d
def pB1 : PyData → Bool
  | .tuple [a, _] => nmB a
  | _ => false
def pB2 : PyData → Bool
  | .tuple [_, b] => noneB b || nmB b
  | _ => true
def prB (d : PyData) : Bool := pB1 d && pB2 d
def prsB (ds : List PyData) : Bool := decide (1 ≤ ds.length) && (decide (ds.length ≤ 6) && ds.all prB)
def pairOf : PyData → Str × Option Str
  | .tuple [.str a, .str b] => (a, some b)
  | .tuple [.str a, _] => (a, none)
  | _ => ("", none)
def csD (ds : List PyData) : Cs := ds.map pairOf
def oD : Option Str → PyData
  | none => .none
  | some z => .str z
def dPr (c : Str × Option Str) : PyData := .tuple [.str c.1, oD c.2]
def strictB (zs : List Str) : Bool := sortedS zs && decide zs.Nodup
def folB (cs : Cs) : Bool := cs.all fun c => match c.2 with
  | none => true
  | some z => decide (z ∈ cs.map (·.1))
def freeB (cs : Cs) : Bool := cs.all fun c => ends cs cs.length (some c.1)
def goodB (cs : Cs) : Bool := strictB (cs.map (·.1)) && (folB cs && freeB cs)
def cpB : PyData → Bool
  | .tuple ds => prsB ds && goodB (csD ds)
  | _ => false
def cpC : PyData → Bool
  | .tuple ds => prsB ds && (strictB ((csD ds).map (·.1)) && folB (csD ds))
  | _ => false
theorem cpC_of {d : PyData} (h : cpB d = true) : cpC d = true := by
  cases d with
  | tuple ds =>
    obtain ⟨h1, h⟩ := Bool.and_eq_true_iff.mp h
    obtain ⟨h2, h⟩ := Bool.and_eq_true_iff.mp h
    obtain ⟨h3, h⟩ := Bool.and_eq_true_iff.mp h
    exact Bool.and_eq_true_iff.mpr ⟨h1, Bool.and_eq_true_iff.mpr ⟨h2, h3⟩⟩
  | _ => cases h
def Sh (d : PyData) : Prop := ∀ z, d = .str z → z.length ≤ sizeLine
def ShP (d : PyData) : Prop := ∀ es, d = .tuple es → es.length ≤ sizeLine ∧ ∀ x ∈ es, Sh x
def ShV (d : PyData) : Prop := ∀ ds, d = .tuple ds → ds.length ≤ sizeLine ∧ ∀ x ∈ ds, ShP x
theorem nm_str {d : PyData} (h : nmB d = true) : ∃ z, d = .str z ∧ madeB small (.str z) = true := by
  cases d <;> first | exact ⟨_, rfl, h⟩ | cases h
theorem p1_tup {d : PyData} (h : pB1 d = true) : ∃ a b, d = .tuple [a, b] ∧ nmB a = true := by
  unfold pB1 at h
  split at h
  · exact ⟨_, _, rfl, h⟩
  · cases h
theorem pr_eq {d : PyData} (h : prB d = true) : d = dPr (pairOf d) ∧ madeB small (.str (pairOf d).1) = true ∧ ∀ z, (pairOf d).2 = some z → madeB small (.str z) = true := by
  obtain ⟨h1, h2⟩ := Bool.and_eq_true_iff.mp h
  obtain ⟨a, b, rfl, ha⟩ := p1_tup h1
  obtain ⟨z, rfl, hz⟩ := nm_str ha
  have h2 : (noneB b || nmB b) = true := h2
  rcases Bool.or_eq_true_iff.mp h2 with hb | hb
  · have : b = .none := by cases b <;> first | rfl | cases hb
    subst this
    exact ⟨rfl, hz, fun z h => (by cases h)⟩
  · obtain ⟨y, rfl, hy⟩ := nm_str hb
    refine ⟨rfl, hz, fun z h => ?_⟩
    cases h
    exact hy
theorem prs_eq {ds : List PyData} (h : prsB ds = true) : ds = (csD ds).map dPr := by
  obtain ⟨_, h⟩ := Bool.and_eq_true_iff.mp h
  obtain ⟨_, h⟩ := Bool.and_eq_true_iff.mp h
  rw [List.all_eq_true] at h
  unfold csD
  rw [List.map_map]
  have : ds.map (dPr ∘ pairOf) = ds.map id := List.map_congr_left fun d hd => (pr_eq (h d hd)).1.symm
  rw [this, List.map_id]
/-- pairs with names -/
structure CsPr (cs : Cs) : Prop where
  ne : 1 ≤ cs.length
  z : cs.length ≤ 6
  nm : ∀ c ∈ cs, madeB small (.str c.1) = true
  fo : ∀ c ∈ cs, ∀ z, c.2 = some z → madeB small (.str z) = true
theorem prs_cs {ds : List PyData} (h : prsB ds = true) : CsPr (csD ds) := by
  obtain ⟨h1, h⟩ := Bool.and_eq_true_iff.mp h
  obtain ⟨h2, h⟩ := Bool.and_eq_true_iff.mp h
  rw [List.all_eq_true] at h
  have l : (csD ds).length = ds.length := List.length_map _
  refine ⟨by rw [l]; exact of_decide_eq_true h1, by rw [l]; exact of_decide_eq_true h2, fun c hc => ?_, fun c hc z hz => ?_⟩
  · obtain ⟨d, hd, rfl⟩ := List.mem_map.mp hc
    exact (pr_eq (h d hd)).2.1
  · obtain ⟨d, hd, rfl⟩ := List.mem_map.mp hc
    exact (pr_eq (h d hd)).2.2 z hz
theorem good_cs {cs : Cs} (p : CsPr cs) (h : goodB cs = true) : CsGood cs := by
  obtain ⟨h1, h⟩ := Bool.and_eq_true_iff.mp h
  obtain ⟨h2, h3⟩ := Bool.and_eq_true_iff.mp h
  obtain ⟨h4, h5⟩ := Bool.and_eq_true_iff.mp h1
  unfold folB at h2
  unfold freeB at h3
  rw [List.all_eq_true] at h2 h3
  refine ⟨⟨p.z, of_decide_eq_true h5, h3⟩, p.ne, p.nm, fun c hc z hz => ⟨p.fo c hc z hz, ?_⟩, h4⟩
  have := h2 c hc
  rw [hz] at this
  exact of_decide_eq_true this
/-- the sorted sequence of them, each once, is themselves just if they are so -/
theorem strict_iff {zs ys : List Str} (p : ys.Perm (once [] zs)) (so : sortedS ys = true) (nd : (once [] zs).Nodup) : decide (zs = ys) = strictB zs := by
  by_cases h : strictB zs = true
  · rw [h, decide_eq_true_eq]
    obtain ⟨h1, h2⟩ := Bool.and_eq_true_iff.mp h
    have e := once_nodup zs [] (by rw [List.nil_append]; exact of_decide_eq_true h2)
    rw [List.nil_append] at e
    rw [e] at p
    exact (sorted_one p so h1).symm
  · have h' : strictB zs = false := by simpa using h
    rw [h', decide_eq_false_iff_not]
    intro e
    apply h
    subst e
    exact Bool.and_eq_true_iff.mpr ⟨so, decide_eq_true (p.nodup_iff.mpr nd)⟩
theorem once_nd : ∀ (zs xs : List Str), xs.Nodup → (once xs zs).Nodup
  | [], xs, h => h
  | z :: zs, xs, h => by
    show (once (more xs z) zs).Nodup
    refine once_nd zs _ ?_
    unfold more
    split
    · exact h
    · rename_i hz
      rw [List.nodup_append]
      refine ⟨h, by simp, fun a ha b hb e => ?_⟩
      rw [List.mem_singleton] at hb
      subst hb e
      exact hz (by simpa using ha)
theorem once_subs : ∀ (zs xs : List Str) (z : Str), z ∈ once xs zs → z ∈ xs ∨ z ∈ zs
  | [], xs, z, h => .inl h
  | y :: zs, xs, z, h => by
    rcases once_subs zs (more xs y) z h with h | h
    · unfold more at h
      split at h
      · exact .inl h
      · rcases List.mem_append.mp h with h | h
        · exact .inl h
        · exact .inr (by rw [List.mem_singleton.mp h]; exact List.mem_cons_self)
    · exact .inr (List.mem_cons_of_mem _ h)
theorem once_sub (zs : List Str) : ∀ z ∈ once [] zs, z ∈ zs := fun z h => (once_subs zs [] z h).elim (fun h => nomatch h) id
theorem once_lens : ∀ (zs xs : List Str), (once xs zs).length ≤ xs.length + zs.length
  | [], xs => Nat.le_refl _
  | y :: zs, xs => by
    have h := once_lens zs (more xs y)
    have : (more xs y).length ≤ xs.length + 1 := by
      unfold more
      split
      · exact Nat.le_succ _
      · rw [List.length_append]; exact Nat.le_refl _
    show (once (more xs y) zs).length ≤ _
    rw [List.length_cons]
    omega
theorem once_len (zs : List Str) : (once [] zs).length ≤ zs.length := by
  have := once_lens zs []
  simpa using this
section
variable {s s' s1 s2 : Sls} {r r' r1 r2 r3 rc rest pre post : Rs} {ta tb te tl tn tv td : TE} {t tr tk : TA} {P Q R : Pr} {K : PySem.W.Frag} {Ω Φ : Pr → Rs → Prop} {Ps Qs Zs : List Pr} {e : Ent} {po : Po} {z z' : Str} {C : Addr} {i j : Int} {E : XK} {d : PyData} {ds : List PyData}
/-- not isinstance(pair, tuple) or len(pair) != 2 or not is_name(pair[0]) -/
theorem et_p1 (hisi : Ev s r ta (rBl (isT d)) r) (hlen : ∀ es, d = .tuple es → Ev s r tl (rBl (!decide ((es.length : Int) = 2))) r) (hn : ∀ a b, d = .tuple [a, b] → Ev s r tn (rBl (nmB a)) r) : EvT s r (tOr (tNot (tTest ta)) (tOr (tTest tl) (tNot (tTest tn)))) (!pB1 d) r := by
  by_cases hd : ∃ es, d = .tuple es
  · obtain ⟨es, rfl⟩ := hd
    by_cases h2 : es.length = 2
    · obtain ⟨a, b, rfl⟩ : ∃ a b, es = [a, b] := by
        match es, h2 with
        | [a, b], _ => exact ⟨a, b, rfl⟩
      exact (et_or (et_not (et_test hisi)) fun _ => et_or (et_test (hlen _ rfl)) fun _ => et_not (et_test (hn a b rfl))).to rfl
    · have hp : pB1 (.tuple es) = false := by
        unfold pB1
        split
        · rename_i a b e
          cases e
          exact absurd rfl h2
        · rfl
      rw [hp]
      exact (et_or (et_not (et_test hisi)) fun _ => et_or (b := true) (et_test (hlen _ rfl)) fun h => by
        have h := not_eq' h
        rw [decide_eq_true_eq] at h
        omega).to (by
          rw [decide_eq_false (by omega : ¬ ((es.length : Int) = 2))]
          rfl)
  · have h0 : isT d = false := by cases d <;> first | rfl | exact absurd ⟨_, rfl⟩ hd
    have h1 : pB1 d = false := by cases d <;> first | rfl | exact absurd ⟨_, rfl⟩ hd
    rw [h1]
    exact (et_or (b := true) (et_not (et_test hisi)) fun h => by rw [h0] at h; cases h).to (by rw [h0]; rfl)
/-- pair[1] is not None and not is_name(pair[1]) -/
theorem et_p2 {b : PyData} (hne : Ev s r ta (rBl (!noneB b)) r) (hn : Ev s r tn (rBl (nmB b)) r) : EvT s r (tAnd (tB ta) (tNot (tTest tn))) (!(noneB b || nmB b)) r :=
  (et_and (et_B hne) fun _ => et_not (et_test hn)).to (by cases noneB b <;> rfl)
/-- != of two lists of texts -/
theorem shaped_str {zs : List Str} (h : ∀ z ∈ zs, PyData.strOk z = true) : SeqAt.shaped (.list (zs.map PyData.str)) = true := shaped_strs h
theorem eqv_strs2 : ∀ zs ys : List Str, PyData.eqvAll (zs.map PyData.str) (ys.map PyData.str) = decide (zs = ys)
  | [], [] => rfl
  | [], y :: ys => by rw [decide_eq_false (by simp)]; rfl
  | z :: zs, [] => by rw [decide_eq_false (by simp)]; rfl
  | z :: zs, y :: ys => by
    show (PyData.eqv (.str z) (.str y) && PyData.eqvAll (zs.map PyData.str) (ys.map PyData.str)) = _
    rw [eqv_strs2 zs ys, show PyData.eqv (.str z) (.str y) = decide (z = y) from rfl]
    by_cases h1 : z = y
    · by_cases h2 : zs = ys
      · simp [h1, h2]
      · simp [h1, h2]
    · simp [h1]
theorem ev_neLS2 {zs ys : List Str} (ha : Ev s r ta (rLs K (zs.map rStr)) r1) (hb : Ev s r1 tb (rLs K (ys.map rStr)) r2) (hz : ∀ z ∈ zs, PyData.strOk z = true) (hy : ∀ z ∈ ys, PyData.strOk z = true) : Ev s r (tOp (rNeD K) ta tb) (rBl (!decide (zs = ys))) r2 := ev_op ha hb fun G H x y sm ⟨_, a, vs, e1, h1, q1⟩ ⟨_, b, ws, e2, h2, q2⟩ W w => by
  have f1 := all2_strs q1
  have f2 := all2_strs q2
  subst f1 f2 e1 e2
  refine ⟨_, _, .lst (sm.seq h1) (dp_strs zs), .lst (sm.seq h2) (dp_strs ys), shaped_strs hz, shaped_strs hy, ?_⟩
  rw [show PyData.eqv (.list (zs.map PyData.str)) (.list (ys.map PyData.str)) = decide (zs = ys) by simp only [PyData.eqv, eqv_strs2]]
  exact w _ rfl
theorem ev_eqLS2 {zs ys : List Str} (ha : Ev s r ta (rLs K (zs.map rStr)) r1) (hb : Ev s r1 tb (rLs K (ys.map rStr)) r2) (hz : ∀ z ∈ zs, PyData.strOk z = true) (hy : ∀ z ∈ ys, PyData.strOk z = true) : Ev s r (tOp (rEqD K) ta tb) (rBl (decide (zs = ys))) r2 := ev_op ha hb fun G H x y sm ⟨_, a, vs, e1, h1, q1⟩ ⟨_, b, ws, e2, h2, q2⟩ W w => by
  have f1 := all2_strs q1
  have f2 := all2_strs q2
  subst f1 f2 e1 e2
  refine ⟨_, _, .lst (sm.seq h1) (dp_strs zs), .lst (sm.seq h2) (dp_strs ys), shaped_strs hz, shaped_strs hy, ?_⟩
  rw [show PyData.eqv (.list (zs.map PyData.str)) (.list (ys.map PyData.str)) = decide (zs = ys) by simp only [PyData.eqv, eqv_strs2]]
  exact w _ rfl
theorem ev_inLS2 {z : Str} {zs : List Str} (ha : Ev s r ta (rStr z) r1) (hb : Ev s r1 tb (rLs K (zs.map rStr)) r2) : Ev s r (tOp (rIn K false) ta tb) (rBl (decide (z ∈ zs))) r2 := ev_op ha hb fun G H x y sm hx ⟨_, b, ws, e2, h2, q2⟩ W w => by
  have f2 := all2_strs q2
  have hx : x = .str z := hx
  subst f2 e2 hx
  refine ⟨b, _, rfl, .inl (sm.seq h2), rfl, by rw [List.all_map]; exact List.all_eq_true.mpr fun _ _ => rfl, ?_⟩
  have : inV (.str z) (zs.map V.str) = decide (z ∈ zs) := by
    by_cases hz : z ∈ zs
    · rw [decide_eq_true hz]
      exact List.any_eq_true.mpr ⟨.str z, List.mem_map_of_mem hz, by simp [eqV]⟩
    · rw [decide_eq_false hz, Bool.eq_false_iff]
      intro h
      obtain ⟨v, hv, he⟩ := List.any_eq_true.mp h
      obtain ⟨y, hy, rfl⟩ := List.mem_map.mp hv
      simp [eqV] at he
      subst he
      exact hz hy
  simp only [Bool.false_eq_true, if_false, this]
  exact w _ rfl
theorem rv_neLS2 {zs ys : List Str} (hz : ∀ z ∈ zs, PyData.strOk z = true) (hy : ∀ z ∈ ys, PyData.strOk z = true) : RVp (rNeD K) (rLs K (zs.map rStr)) (rLs K (ys.map rStr)) (rBl (!decide (zs = ys))) := fun G H x y sm ⟨_, a, vs, e1, h1, q1⟩ ⟨_, b, ws, e2, h2, q2⟩ W w => by
  have f1 := all2_strs q1
  have f2 := all2_strs q2
  subst f1 f2 e1 e2
  refine ⟨_, _, .lst (sm.seq h1) (dp_strs zs), .lst (sm.seq h2) (dp_strs ys), shaped_strs hz, shaped_strs hy, ?_⟩
  rw [show PyData.eqv (.list (zs.map PyData.str)) (.list (ys.map PyData.str)) = decide (zs = ys) by simp only [PyData.eqv, eqv_strs2]]
  exact w _ rfl
theorem rv_eqLS2 {zs ys : List Str} (hz : ∀ z ∈ zs, PyData.strOk z = true) (hy : ∀ z ∈ ys, PyData.strOk z = true) : RVp (rEqD K) (rLs K (zs.map rStr)) (rLs K (ys.map rStr)) (rBl (decide (zs = ys))) := fun G H x y sm ⟨_, a, vs, e1, h1, q1⟩ ⟨_, b, ws, e2, h2, q2⟩ W w => by
  have f1 := all2_strs q1
  have f2 := all2_strs q2
  subst f1 f2 e1 e2
  refine ⟨_, _, .lst (sm.seq h1) (dp_strs zs), .lst (sm.seq h2) (dp_strs ys), shaped_strs hz, shaped_strs hy, ?_⟩
  rw [show PyData.eqv (.list (zs.map PyData.str)) (.list (ys.map PyData.str)) = decide (zs = ys) by simp only [PyData.eqv, eqv_strs2]]
  exact w _ rfl
/-- sorted(xs) of texts -/
theorem ex_sortedS {zs : List Str} (h : EvA s r t [rLs K (zs.map rStr)] r1) (hz : zs.length < 64) (k : ∀ ys : List Str, ys.Perm zs → sortedS ys = true → Ω (rLs K (ys.map rStr)) r1) : EvX s r (tCB (rSortedS K) t) Ω := fun e G H σ m l W w => h e G H σ m l _ fun vs G1 H1 m1 g1 al => by
  cases al with
  | cons a1 al =>
    cases al
    obtain ⟨z, a, xs, rfl, hs, al⟩ := a1
    have f1 := all2_strs al
    subst f1
    refine ⟨a, zs, rfl, m1.sub.seq hs, hz, fun ys p pm so hp => ?_⟩
    have gn := same_new (o := .lst (ys.map V.str)) (m1.sub.free hp)
    refine w _ (upd G1 p (.lst (ys.map V.str))) _ _ _ (k ys pm so) (m1.new hp) (g1.trans gn) ⟨by rw [List.length_map] at z ⊢; rw [pm.length_eq]; exact z, p, _, rfl, SqL.of upd_same, ?_⟩
    have q : ∀ ys : List Str, All2 (upd G1 p (.lst (ys.map V.str))) (ys.map V.str) (ys.map rStr) → True := fun _ _ => trivial
    have al2 : ∀ (G : Hp) (ys : List Str), All2 G (ys.map V.str) (ys.map rStr) := fun G ys => by
      induction ys with
      | nil => exact .nil
      | cons y ys ih => exact .cons rfl ih
    exact al2 _ ys
/-! ### plain tuples -/
theorem ev_tupF (h : EvA s r t Ps r1) (hz : Ps.length ≤ 1000 := by first | decide | exact Nat.le_of_ble_eq_true rfl) : Ev s r (tTupF t) (rTq Ps) r1 := fun e G H σ m k W w =>
  h e G H σ m k _ fun vs G1 H1 m1 g1 pvs => ⟨by rw [pvs.len]; exact Nat.le_trans hz (by decide), fun p od hd hp => w _ (upd G1 p (.frz od (.tup vs))) _ (m1.new hp) (g1.trans (same_new (m1.sub.free hp))) ⟨Nat.le_trans hz (by decide), p, od, vs, rfl, upd_same, hd, pvs.mono (same_new (m1.sub.free hp))⟩⟩
theorem all2_nil {G : Hp} {vs : List V} (h : All2 G vs []) : vs = [] := by cases h; rfl
theorem all2_ne {G : Hp} {vs : List V} (h : All2 G vs Ps) (hp : Ps ≠ []) : vs ≠ [] := fun e => by subst e; cases h; exact hp rfl
/-- t + u: u plain and not empty -/
theorem ev_catF1 (ha : Ev s r ta (rTs K Ps) r1) (hb : Ev s r1 tb (rTq Qs) r2) (hq : Qs ≠ []) (hz : Ps.length + Qs.length ≤ sizeLine) : Ev s r (tOp (rCatF K) ta tb) (rTq (Ps ++ Qs)) r2 := fun e G H σ m l W w => ha e G H σ m l _ fun x G1 H1 m1 g1 px => hb e G1 H1 σ m1 (l.mono g1) _ fun y G2 H2 m2 g2 py => by
  obtain ⟨_, a, vs, rfl, h1, al⟩ := (rTs K Ps).m g2 px
  obtain ⟨z2, b, od, ws, rfl, h2, hd, al2⟩ := py
  refine ⟨a, b, vs, ws, rfl, rfl, SqT.ext h1 m2.sub, .inl (.inr ⟨od, m2.sub _ _ h2⟩), by rw [al.len, al2.len]; exact hz, fun hv => ?_, fun _ hw => absurd hw (all2_ne al2 hq), fun _ _ p od hd hp => ?_⟩
  · subst hv
    cases al
    exact w _ G2 H2 m2 (g1.trans g2) ⟨z2, b, od, ws, rfl, h2, hd, al2⟩
  · have gn := same_new (o := .frz od (.tup (vs ++ ws))) (m2.sub.free hp)
    exact w _ (upd G2 p (.frz od (.tup (vs ++ ws)))) _ (m2.new hp) (g1.trans (g2.trans gn)) ⟨by rw [List.length_append]; exact hz, p, od, _, rfl, upd_same, hd, (al.mono gn).app (al2.mono gn)⟩
/-- t + u: t plain and not empty -/
theorem ev_catF2 (ha : Ev s r ta (rTq Ps) r1) (hb : Ev s r1 tb (rTs K Qs) r2) (hq : Ps ≠ []) (hz : Ps.length + Qs.length ≤ sizeLine) : Ev s r (tOp (rCatF K) ta tb) (rTq (Ps ++ Qs)) r2 := fun e G H σ m l W w => ha e G H σ m l _ fun x G1 H1 m1 g1 px => hb e G1 H1 σ m1 (l.mono g1) _ fun y G2 H2 m2 g2 py => by
  obtain ⟨z1, a, od, vs, rfl, h1, hd, al⟩ := (rTq Ps).m g2 px
  obtain ⟨_, b, ws, rfl, h2, al2⟩ := py
  refine ⟨a, b, vs, ws, rfl, rfl, .inl (.inr ⟨od, m2.sub _ _ h1⟩), SqT.ext h2 m2.sub, by rw [al.len, al2.len]; exact hz, fun hv => absurd hv (all2_ne al hq), fun _ hw => ?_, fun _ _ p od hd hp => ?_⟩
  · subst hw
    cases al2
    rw [List.append_nil] at w
    exact w _ G2 H2 m2 (g1.trans g2) ⟨z1, a, od, vs, rfl, h1, hd, al⟩
  · have gn := same_new (o := .frz od (.tup (vs ++ ws))) (m2.sub.free hp)
    exact w _ (upd G2 p (.frz od (.tup (vs ++ ws)))) _ (m2.new hp) (g1.trans (g2.trans gn)) ⟨by rw [List.length_append]; exact hz, p, od, _, rfl, upd_same, hd, (al.mono gn).app (al2.mono gn)⟩
theorem all2_rev {G : Hp} : ∀ {vs : List V} {Ps : List Pr}, All2 G vs Ps → All2 G vs.reverse Ps.reverse
  | _, _, .nil => .nil
  | _, _, .cons a t => by rw [List.reverse_cons, List.reverse_cons]; exact (all2_rev t).app (.cons a .nil)
theorem ev_revF (h : Ev s r te (rTs K Ps) r1) : Ev s r (tRevF K te) (rTq Ps.reverse) r1 := fun e G H σ m l W w => h e G H σ m l _ fun x G1 H1 m1 g1 ⟨z, a, vs, e1, hs, al⟩ =>
  ⟨a, vs, e1, SqT.ext hs m1.sub, fun p od hd hp => w _ (upd G1 p (.frz od (.tup vs.reverse))) _ (m1.new hp) (g1.trans (same_new (m1.sub.free hp))) ⟨by rw [List.length_reverse]; exact z, p, od, _, rfl, upd_same, hd, all2_rev (al.mono (same_new (m1.sub.free hp)))⟩⟩
theorem all2_take {G : Hp} : ∀ {vs : List V} {Ps : List Pr} (k : Nat), All2 G vs Ps → All2 G (vs.take k) (Ps.take k)
  | _, _, 0, _ => .nil
  | _, _, _ + 1, .nil => .nil
  | _, _, k + 1, .cons a t => .cons a (all2_take k t)
theorem all2_drop {G : Hp} : ∀ {vs : List V} {Ps : List Pr} (k : Nat), All2 G vs Ps → All2 G (vs.drop k) (Ps.drop k)
  | _, _, 0, h => h
  | _, _, _ + 1, .nil => .nil
  | _, _, k + 1, .cons a t => all2_drop k t
/-- t[:k], t[k:] -/
theorem ev_slTo {th : TO} (k : Nat) (h : Ev s r te (rTs K Ps) r1) (hh : EvO s r1 th (some (k : Int)) r2) (hk : k ≤ Ps.length) : Ev s r (tSl (rSlA K) te tNoPart th) (rTs K (Ps.take k)) r2 := fun e G H σ m l W w => h e G H σ m l _ fun x G1 H1 m1 g1 px => hh e G1 H1 σ m1 (l.mono g1) _ fun G2 H2 m2 g2 => by
  obtain ⟨z, a, vs, rfl, hs, al⟩ := (rTs K Ps).m g2 px
  have hl := al.len
  have zz : (Ps.take k).length ≤ sizeLine := by rw [List.length_take]; omega
  have ek : HT.sIx vs.length vs.length (some (k : Int)) = k := by rw [HT.sIx_nat, Nat.min_eq_left (by omega)]
  refine ⟨a, vs, rfl, SqT.ext hs m2.sub, fun hw => ?_, fun _ p hp => ?_⟩
  · have e1 : k = vs.length := by rw [← ek]; exact hw.2
    exact w _ G2 H2 m2 (g1.trans g2) ⟨zz, a, vs, rfl, hs, by rw [e1, hl, List.take_length]; exact al⟩
  · have ec : cutV vs none (some (k : Int)) = vs.take k := by
      unfold cutV
      rw [ek, HT.sIx_none, List.drop_zero, Nat.sub_zero]
    rw [ec]
    have gn := same_new (o := .tup (vs.take k)) (m2.sub.free hp)
    exact w _ (upd G2 p (.tup (vs.take k))) _ (m2.new hp) (g1.trans (g2.trans gn)) ⟨zz, p, _, rfl, SqT.of upd_same, all2_take k (al.mono gn)⟩
theorem ev_slFrom {tl : TO} (k : Nat) (h : Ev s r te (rTs K Ps) r1) (hh : EvO s r1 tl (some (k : Int)) r2) (hk : k ≤ Ps.length) : Ev s r (tSl (rSlA K) te tl tNoPart) (rTs K (Ps.drop k)) r2 := fun e G H σ m l W w => h e G H σ m l _ fun x G1 H1 m1 g1 px => hh e G1 H1 σ m1 (l.mono g1) _ fun G2 H2 m2 g2 => by
  obtain ⟨z, a, vs, rfl, hs, al⟩ := (rTs K Ps).m g2 px
  have hl := al.len
  have zz : (Ps.drop k).length ≤ sizeLine := by rw [List.length_drop]; omega
  have ek : HT.sIx vs.length 0 (some (k : Int)) = k := by rw [HT.sIx_nat, Nat.min_eq_left (by omega)]
  refine ⟨a, vs, rfl, SqT.ext hs m2.sub, fun hw => ?_, fun _ p hp => ?_⟩
  · have e1 : k = 0 := by rw [← ek]; exact hw.1
    exact w _ G2 H2 m2 (g1.trans g2) ⟨zz, a, vs, rfl, hs, by rw [e1]; exact al⟩
  · have ec : cutV vs (some (k : Int)) none = vs.drop k := by
      unfold cutV
      rw [ek, HT.sIx_none, List.take_of_length_le (by rw [List.length_drop]; exact Nat.le_refl _)]
    rw [ec]
    have gn := same_new (o := .tup (vs.drop k)) (m2.sub.free hp)
    exact w _ (upd G2 p (.tup (vs.drop k))) _ (m2.new hp) (g1.trans (g2.trans gn)) ⟨zz, p, _, rfl, SqT.of upd_same, all2_drop k (al.mono gn)⟩
/-! ### such data as a value -/
def rVd (K : PySem.W.Frag) (d : PyData) : Pr := ⟨fun G v => Dq K G v d ∧ (cpC d = true → ∀ ds, d = .tuple ds → (rTq (ds.map (rDq K))).p G v), fun k ⟨h, q⟩ => ⟨Dq.same k h, fun c ds e => Pr.m _ k (q c ds e)⟩⟩
theorem vd_dq : ∀ (G : Hp) (v : V), (rVd K d).p G v → (rDq K d).p G v := fun G v h => h.1
theorem tq_vd : ∀ (G : Hp) (v : V), (rTq (ds.map (rDq K))).p G v → (rVd K (.tuple ds)).p G v := fun G v h => by
  have h0 := h
  obtain ⟨z, a, od, vs, e, h, hd, al⟩ := h
  subst e
  exact ⟨.tup (.inl (.inr ⟨od, h⟩)) (dqa_of al), fun _ ds e => by cases e; exact h0⟩
theorem dq_vd (h0 : cpC d = false) : ∀ (G : Hp) (v : V), (rDq K d).p G v → (rVd K d).p G v := fun G v h => ⟨h, fun c => by rw [h0] at c; cases c⟩
theorem pair_dq {c : Str × Option Str} : ∀ (G : Hp) (v : V), (rPair K c).p G v → (rDq K (dPr c)).p G v := fun G v ⟨z, a, vs, e, hs, al⟩ => by
  subst e
  refine .tup hs ?_
  cases al with
  | cons a al => cases al with
    | cons b al =>
      cases al
      have a : _ = V.str c.1 := a
      subst a
      refine .cons (.str _) (.cons ?_ .nil)
      cases h : c.2 with
      | none => rw [h] at b; have b : _ = V.non := b; subst b; exact .non
      | some z => rw [h] at b; have b : _ = V.str z := b; subst b; exact .str z
theorem dq_pairs {c : Str × Option Str} : ∀ (G : Hp) (v : V), (rDq K (dPr c)).p G v → (rPair K c).p G v := fun G v h => by
  cases (show Dq K G v (.tuple [.str c.1, oD c.2]) from h) with
  | tup hs al =>
    refine ⟨by show 2 ≤ sizeLine; decide, _, _, rfl, hs, ?_⟩
    cases al with
    | cons a al => cases al with
      | cons b al =>
        cases al
        refine .cons (dq_str a) (.cons ?_ .nil)
        cases h : c.2 with
        | none => rw [h] at b; cases b; rfl
        | some z => rw [h] at b; cases b; rfl
theorem all2_impR {α : Type} {R S : α → Pr} (h : ∀ c G v, (R c).p G v → (S c).p G v) {G : Hp} : ∀ {vs : List V} {cs : List α}, All2 G vs (cs.map R) → All2 G vs (cs.map S)
  | _, [], h => by cases h; exact .nil
  | _, c :: cs, al => by
    rw [List.map_cons] at al
    cases al with
    | cons a t => exact .cons (h c G _ a) (all2_impR h t)
theorem tq_pairs {cs : Cs} : ∀ (G : Hp) (v : V), (rTq (pairsP K (csP cs))).p G v → (rTq ((cs.map dPr).map (rDq K))).p G v := fun G v ⟨z, a, od, vs, e, h, hd, al⟩ => by
  rw [pairs_cs] at z al
  refine ⟨by rw [List.length_map, List.length_map] at *; exact z, a, od, vs, e, h, hd, ?_⟩
  rw [List.map_map]
  exact all2_impR (fun c G v h => pair_dq G v h) al
theorem vd_pairs {cs : Cs} (h : cpC (.tuple (cs.map dPr)) = true) : ∀ (G : Hp) (v : V), (rVd K (.tuple (cs.map dPr))).p G v → (rTq (pairsP K (csP cs))).p G v := fun G v ⟨h1, h2⟩ => by
  obtain ⟨z, a, od, vs, e, hg, hd, al⟩ := h2 h _ rfl
  rw [List.map_map] at al
  refine ⟨?_, a, od, vs, e, hg, hd, ?_⟩
  · rw [pairs_cs, List.length_map]; rw [List.length_map, List.length_map] at z; exact z
  · rw [pairs_cs]
    exact all2_impR (fun c G v h => dq_pairs G v h) al
end
end FL

namespace FL
open PySem PySem.Spec PyProof.Rows L2 StX FN FT FS FZ FP
open S1 (Dq DqA rSortedTx cr_sortedTx tLamC Chg tMethN rReprQ call_reprQ FnG)
/-! ### who follows whom, by rounds -/
def rnd (cs : Cs) (known : List Str) : List Str := (cs.filter fun c => match c.2 with
  | none => true
  | some y => decide (y ∈ known)).map (·.1)
def kn (cs : Cs) : Nat → List Str
  | 0 => []
  | i + 1 => rnd cs (kn cs i)
theorem kn_eq {cs : Cs} (nd : (cs.map (·.1)).Nodup) (fo : folB cs = true) : ∀ i, kn cs i = (cs.map (·.1)).filter fun z => ends cs i (some z)
  | 0 => by
    show [] = _
    symm
    rw [List.filter_eq_nil_iff]
    intro z _
    simp [ends]
  | i + 1 => by
    show rnd cs (kn cs i) = _
    rw [kn_eq nd fo i]
    unfold rnd
    rw [List.filter_map (f := fun c : Str × Option Str => c.1) (p := fun z => ends cs (i + 1) (some z))]
    congr 1
    refine List.filter_congr fun c hc => ?_
    have e1 : ends cs (i + 1) (some c.1) = ends cs i c.2 := by
      show (match cs.lookup c.1 with | none => false | some o => ends cs i o) = _
      rw [lookup_mem nd hc]
    show _ = ends cs (i + 1) (some c.1)
    rw [e1]
    have hf : (match c.2 with | none => true | some z => decide (z ∈ cs.map (·.1))) = true := List.all_eq_true.mp fo c hc
    cases h : c.2 with
    | none => cases i <;> rfl
    | some y =>
      rw [h] at hf
      have hy : y ∈ cs.map (·.1) := of_decide_eq_true hf
      show decide (y ∈ _) = ends cs i (some y)
      cases he : ends cs i (some y) with
      | true => exact decide_eq_true (List.mem_filter.mpr ⟨hy, he⟩)
      | false => exact decide_eq_false fun hm => by rw [(List.mem_filter.mp hm).2] at he; cases he
theorem kn_all {cs : Cs} (nd : (cs.map (·.1)).Nodup) (fo : folB cs = true) : decide (kn cs cs.length = cs.map (·.1)) = freeB cs := by
  rw [kn_eq nd fo]
  have e : freeB cs = (cs.map (·.1)).all fun z => ends cs cs.length (some z) := by
    unfold freeB
    rw [List.all_map]
    rfl
  rw [e]
  by_cases h : ((cs.map (·.1)).all fun z => ends cs cs.length (some z)) = true
  · rw [h, decide_eq_true_eq, List.filter_eq_self]
    exact List.all_eq_true.mp h
  · have h' : ((cs.map (·.1)).all fun z => ends cs cs.length (some z)) = false := by simpa using h
    rw [h', decide_eq_false_iff_not, List.filter_eq_self]
    exact fun q => h (List.all_eq_true.mpr q)
theorem sorted_sub {zs ws : List Str} (h : ws.Sublist zs) (so : sortedS zs = true) : sortedS ws = true := sorted_of ((sorted_pair so).sublist h)
/-! ### a class made by keywords -/
structure CalKM (P : Program) (w : World) (K : PySem.W.Frag) (mg : Str → Option Value) (base : Heap) (CX : CXT) (C : Addr) (k : Nat) (x : Str) (ps : List Str) (n : Nat) (ks : List Str) (gV : List V → List V → List V) (sp : Sp) : Prop where
  ex : ∃ f fd g, FnOk P w K mg base CX k f fd ps sp ∧ Mk K C f ∧ mg x = some (.ref C) ∧ KBn K fd ps (n + 1) ks g gV
section
variable {X : Cx} {k m : Nat} {ps ks : List Str} {sp : Sp} {x : Str} {p pos apos : Pos} {e o : Expr} {es : List Expr} {kws : List Keyword} {t tk : TA} {CX : CXT} {E : XK} {C : Addr} {n : Nat} {gV : List V → List V → List V}
theorem pe_cKM (D : CalKM X.prog X.w X.K X.mg X.base CX C k x ps n ks gV sp) (hx : Passes CX X E) (hr : Room m X.A) (hg : Gl X x) (ha : PA X (e :: es) t) (hkw : PK X kws tk) (hk : k + 1 ≤ m := by decide)
    (hall : (backToKw pos (keywordEach kws X.env)).all (·.1.isSome) = true := by rfl) (hks : (backToKw pos (keywordEach kws X.env)).filterMap (·.1) = ks := by rfl) (hdb : (x == ("__debug__" : Str)) = false := by decide)
    (he : starEach (e :: es) X.env = (false, eval e X.env) :: starEach es X.env := by rfl) (hpl : ((backTo pos (starEach (e :: es) X.env)).any (·.1) || (backToKw pos (keywordEach kws X.env)).any (·.1.isNone)) = false := by rfl) :
    PE X (.Call (.Name x p) (e :: es) kws pos) (tMakeK C n ks.length sp gV E t tk) := by
  obtain ⟨f, fd, g, h1, h2, h3, h4⟩ := D.ex
  exact pe_makeK h2 h1 (hr.mono hk) hg h3 h4 hx ha hkw hall hks hdb he hpl
theorem pe_cKM0 (D : CalKM X.prog X.w X.K X.mg X.base CX C k x ps 0 ks gV sp) (hx : Passes CX X E) (hr : Room m X.A) (hg : Gl X x) (hkw : PK X kws tk) (hk : k + 1 ≤ m := by decide)
    (hall : (backToKw pos (keywordEach kws X.env)).all (·.1.isSome) = true := by rfl) (hks : (backToKw pos (keywordEach kws X.env)).filterMap (·.1) = ks := by rfl) (hdb : (x == ("__debug__" : Str)) = false := by decide)
    (hpl : ((backTo pos (starEach [] X.env)).any (·.1) || (backToKw pos (keywordEach kws X.env)).any (·.1.isNone)) = false := by rfl) :
    PE X (.Call (.Name x p) [] kws pos) (tMakeK C 0 ks.length sp gV E tNil tk) := by
  obtain ⟨f, fd, g, h1, h2, h3, h4⟩ := D.ex
  exact pe_makeK0 h2 h1 (hr.mono hk) hg h3 h4 hx hkw hall hks hdb hpl
end
section
variable {s s' s1 s2 : Sls} {r r' r1 r2 r3 rc rest pre post : Rs} {ta tb te tl tn tv td : TE} {t tr tk : TA} {P Q R : Pr} {K : PySem.W.Frag} {Ω Φ Φ' : Pr → Rs → Prop} {Ψ : Addr → Pr → Rs → Prop} {Ps Qs Zs : List Pr} {e : Ent} {po : Po} {z z' : Str} {C : Addr} {i j : Int} {E : XK} {d : PyData} {ds : List PyData} {S : SpecR} {n mk : Nat} {gV : List V → List V → List V} {T : Addr} {q : Str}
/-- C(.., k = ..) that may raise -/
theorem ex_makeKR {Φ : Addr → Pr → Rs → Prop} {Ψ' : Addr → Addr → Pr → Rs → Prop} (Ys : List Pr) (rc rest : Rs) (h : EvA s r t Ps r1) (hk : EvA s r1 tk Zs (rc ++ rest)) (hn : Ps.length = n) (hm : Zs.length = mk) (hg : ∀ G x vs zs, (rAt x).p G (.ref x) → All2 G vs Ps → All2 G zs Zs → All2 G (gV (.ref x :: vs) zs) (rAt x :: Ys))
    (hS : ∀ x, S (rAt x :: Ys) ((x, cOb C [] []) :: rc) (Φ x) (Ψ' x)) (hN : ∀ x P r', Φ x P r' → P = rNon) (hx : XLe e Ψ E) (hΨ : ∀ x D P r', Ψ' x D P r' → Ψ D P (r' ++ rest)) :
    EvXe e s r (tMakeK C n mk (spR S) gV E t tk) (fun P r' => ∃ x r1, P = rAt x ∧ Φ x rNon r1 ∧ r' = r1 ++ rest) := fun G H σ m l W w => h e G H σ m l _ fun vs G0 H0 m0 g0 al0 => hk e G0 H0 σ m0 (l.mono g0) _ fun zs G1 H1 m1 g1 alz => by
  refine ⟨by rw [al0.len, hn], by rw [alz.len, hm], fun x dx hX hdx ne => ?_⟩
  have m2 := m1.hid (o := .own x) hdx
  have hx2 : (upd H1 dx (.own x)) x = none := by rw [upd_ne (Ne.symm ne)]; exact hX
  have m3 := m2.own (o := .ins C dx []) (C := cOb C [] []) hx2 ⟨dx, [], rfl, rfl, .nil⟩
  have m4 : Mv e G1 (upd (upd H1 dx (.own x)) x (.ins C dx [])) (((x, cOb C [] []) :: rc) ++ rest) := m3
  exact ⟨G1, _, _, Φ x, Ψ' x, hS x, hg G1 x vs zs rfl (al0.mono g1) alz, m4.drop.self, fun v G3 H3 P r' f m5 pv => by
    have := hN x P r' f
    subst this
    exact ⟨pv, w (.ref x) G3 H3 (rAt x) _ ⟨x, r', rfl, f, rfl⟩ (m4.trans m5) ((g0.trans g1).trans m5.gg) rfl⟩, fun D P r' G' H' d v f m5 hd pv => hx D P _ G' H' d v (hΨ x _ _ _ f) (m4.trans m5) hd pv⟩
/-- o.p for what o makes -/
theorem ex_propX {S : Spec} {ns : List Str} (h0 : EvX s r ta fun P r1 => ∃ (a : Addr) (Qs : List Pr) (rc rest : Rs) (Φ : Pr → Rs → Prop), P = rAt a ∧ r1 = rc ++ rest ∧ (a, cOb C ns Qs) ∈ rc ∧ S [rAt a] rc Φ ∧ ∀ P r', Φ P r' → Ω P (r' ++ rest)) : EvX s r (tProp C (spM S) [] E ta) Ω := fun e G H σ m l W w => h0 e G H σ m l _ fun x G1 H1 P r1 ⟨a, Qs, rc, rest, Φ, e1, e2, hi, hS, k⟩ m1 g1 px => by
  subst e1 e2
  obtain ⟨o, ho, ⟨dx, vs, rfl, z, al⟩⟩ := m1.at_ (List.mem_append_left _ hi)
  have px : x = .ref a := px
  subst px
  exact ⟨a, dx, _, rfl, ho, G1, _, rc, Φ, hS, .cons rfl .nil, m1.drop.self, fun v G3 H3 P r' f m3 pv => w v G3 H3 P _ (k _ _ f) (m1.trans m3) (g1.trans m3.gg) pv⟩
theorem ex_newLsX (h : EvXA s r t fun Ps r1 => Ps.length ≤ 1000 ∧ ∀ a, Ω (rAt a) ((a, cLs Ps) :: r1)) : EvX s r (tLst t) Ω := fun e G H σ m l W w => h e G H σ m l _ fun vs G1 H1 Ps r1 ⟨hz, k⟩ m1 g1 al => ⟨by rw [al.len]; exact Nat.le_trans hz (by decide), fun p hp => w _ G1 _ _ _ (k p) (m1.own hp ⟨Nat.le_trans hz (by decide), vs, rfl, al⟩) g1 rfl⟩
/-- a list as it is read -/
theorem ex_lstPX (h : EvXA s r t fun Ps r1 => Ps.length ≤ 1000 ∧ Ω (rLp Ps) r1) : EvX s r (tLst t) Ω := fun e G H σ m l W w => h e G H σ m l _ fun vs G1 H1 Ps r1 ⟨hz, k⟩ m1 g1 al => ⟨by rw [al.len]; exact Nat.le_trans hz (by decide), fun p hp => w _ (upd G1 p (.lst vs)) _ _ _ k (m1.new hp) (g1.trans (same_new (m1.sub.free hp))) ⟨Nat.le_trans hz (by decide), p, vs, rfl, upd_same, al.mono (same_new (m1.sub.free hp))⟩⟩
/-- caught(lambda: e), whatever it tells -/
theorem ex_lamG {tbl : List (Addr × Str)} {t : XK → TE} (pre post : Rs) (hr : r = pre ++ (T, cTab q) :: post) (h : ∀ e E, XLe e Ψ E → EvXe e s r (t E) Φ) (hΦ : ∀ P r', Φ P r' → Φ' (rTs K [rStr "told", P]) r')
    (hΨ : ∀ C P r', Ψ C P r' → ∃ z d, (C, z) ∈ tbl ∧ (∀ G v, P.p G v → (rDq K d).p G v) ∧ Φ' (rDq K (.tuple [.str z, d])) r') : EvX s r (tLamC T q (TTc tbl) t) Φ' := fun e G H σ m l W w => by
  subst hr
  obtain ⟨o, ho, ⟨ps, rfl, tri, known⟩⟩ := m.at_ (p := T) (C := cTab q) (List.mem_append_right _ List.mem_cons_self)
  refine ⟨⟨ps, ho, tri, fun pos cv z => ?_⟩, fun H1 ch => ?_⟩
  · obtain ⟨c, e1, e2⟩ := known pos cv z
    exact ⟨c, e1, m.sub _ _ e2⟩
  · obtain ⟨G1, g1, m1⟩ := mv_tab m ch
    have back : ∀ {G' H' r'}, Mv ⟨G1, H1, pre ++ (T, cTab q) :: post⟩ G' H' r' → Mv e G' H' r' := fun {G' H' r'} k => by
      have := Mv.trans (rest := []) (by rw [List.append_nil]; exact m1) k
      rwa [List.append_nil] at this
    refine h ⟨G1, H1, _⟩ (eCau tbl W) (fun C P r' G' H' d v f m2 hd pv => ?_) G1 H1 σ m1.self (l.mono g1) _ fun v G' H' P r' f m2 g2 pv => ?_
    · obtain ⟨z, d', hm, k, f'⟩ := hΨ C P r' f
      refine ⟨C, z, d, v, hm, rfl, rfl, hd, (by decide : 2 ≤ sizeLine), fun p hp => ?_⟩
      exact w _ _ _ _ r' f' ((back m2).new hp) ((g1.trans m2.gg).trans (same_new (m2.sub.free hp))) (dq_pair (m2.sub.free hp) (k _ _ pv))
    · refine ⟨(by decide : 2 ≤ sizeLine), fun p hp => ?_⟩
      exact w _ _ _ _ r' (hΦ P r' f) ((back m2).new hp) ((g1.trans m2.gg).trans (same_new (m2.sub.free hp))) ⟨(by decide : 2 ≤ sizeLine), p, _, rfl, SqT.of upd_same, .cons rfl (.cons (P.m (same_new (m2.sub.free hp)) pv) .nil)⟩
/-- repr of a list of data -/
theorem ev_reprL (h : EvA s r t [rLp (ds.map (rDq K))] r1) (h1 : (PyData.list ds).showable = true) (h2 : (PyData.list ds).depth ≤ 60) (h3 : (PyData.list ds).shown.length ≤ sizeLine) : Ev s r (tCB (rReprQ K) t) (rStr (PyData.list ds).shown) r1 := ev_cb h fun G H vs sm al W w => by
  cases al with
  | cons av al =>
    cases al
    obtain ⟨z, a, xs, e1, hg, q⟩ := av
    exact ⟨a, xs, ds, _, by rw [e1], DqA.same sm (dqa_of q), .inl ⟨sm _ _ hg, rfl⟩, h1, h2, h3, w _ rfl⟩
/-- a list that may be written becomes a datum, as it stands -/
theorem ev_frLp {a : Addr} {Ps : List Pr} (h : Ev s r te (rAt a) (pre ++ (a, cLs Ps) :: post)) : Ev s r te (rLp Ps) (pre ++ post) := fun e G H σ m k Q q => h e G H σ m k Q fun v G' H' m' g p => by
  obtain ⟨o, ho, ⟨z, vs, rfl, al⟩, gn, m2⟩ := m'.freezeAt
  exact q v _ H' m2 (g.trans (same_new gn)) ⟨z, a, vs, p, upd_same, al.mono (same_new gn)⟩
/-! ### rows as data -/
theorem ev_listTD (h : EvA s r t [rTs K (ds.map (rDq K))] r1) : Ev s r (tCB (fun xs H Q => ∃ p ys, xs = [.ref p] ∧ (SqL K H p ys ∨ SqT K H p ys) ∧ ∀ l, H l = none → Q (.ref l) (upd H l (.lst ys))) t) (rDq K (.list ds)) r1 := ev_cbN h fun G H vs sm al W w => by
  cases al with
  | cons av t =>
    cases t
    obtain ⟨z, a, ws, ex, hs, ak⟩ := av
    subst ex
    exact ⟨a, ws, rfl, .inr (SqT.ext hs sm), fun p hp => w p _ hp fun G' sg hG => .lst hG (DqA.same sg (dqa_of ak))⟩
def dctOf (cs : Cs) : PyData := .dict (cs.map fun c => (.str c.1, oD c.2))
theorem allk_dq {G : Hp} : ∀ {vs : List (Key × V)} {cs : Cs}, AllK G vs (csP cs) → (cs.map fun c => ((.str c.1 : PyData), oD c.2)).map (·.1) = vs.map (fun q => S1.dK0 q.1) ∧ DqA K G (vs.map (·.2)) ((cs.map fun c => ((.str c.1 : PyData), oD c.2)).map (·.2))
  | _, [], h => by cases h; exact ⟨rfl, .nil⟩
  | _, c :: cs, h => by
    cases h with
    | cons a t =>
      obtain ⟨h1, h2⟩ := allk_dq t
      obtain ⟨e1, e2⟩ := a
      rename_i kv vs
      obtain ⟨k, v⟩ := kv
      have e1 : k = .inr c.1 := e1
      subst e1
      refine ⟨by rw [List.map_cons, List.map_cons, List.map_cons, h1]; rfl, ?_⟩
      rw [List.map_cons, List.map_cons, List.map_cons]
      refine .cons ?_ h2
      have e2 : (rOpt rStr c.2).p G v := e2
      show Dq K G v (oD c.2)
      cases h : c.2 with
      | none => rw [h] at e2; have e2 : v = .non := e2; subst e2; exact .non
      | some z => rw [h] at e2; have e2 : v = .str z := e2; subst e2; exact .str z
/-- a dict of rows, made and left -/
theorem ev_dctD2 {cs : Cs} (h : EvX s r te (fun P r' => ∃ a, P = rAt a ∧ r' = (a, cDk (csP cs)) :: r1)) : Ev s r te (rDq K (dctOf cs)) r1 := fun e G H σ m l W w => h e G H σ m l _ fun v G1 H1 P r' ⟨a, e1, e2⟩ m1 g1 pv => by
  subst e1 e2
  obtain ⟨o, ho, ⟨z, vs, rfl, al⟩, gn, m2⟩ := m1.freeze
  have pv : v = .ref a := pv
  subst pv
  have sn := same_new (o := .dK vs) gn
  obtain ⟨k1, k2⟩ := allk_dq (K := K) (al.mono sn)
  exact w _ _ _ m2 (g1.trans sn) (.dct upd_same k1 k2)
end
/-! ### data whose repr is short -/
structure FineN (w k : Nat) (d : PyData) : Prop where
  l : d.leavesShort 60 = true
  w : d.weight ≤ w
  dp : d.depth ≤ k
  s : d.showable = true
structure FineL (w k : Nat) (ds : List PyData) : Prop where
  l : PyData.leavesShortAll 60 ds = true
  w : PyData.weightAll ds ≤ w
  dp : PyData.depthAll ds ≤ k
  s : PyData.showableAll ds = true
theorem FineN.mono {w k w' k' : Nat} {d : PyData} (h : FineN w k d) (hw : w ≤ w') (hk : k ≤ k') : FineN w' k' d := ⟨h.l, Nat.le_trans h.w hw, Nat.le_trans h.dp hk, h.s⟩
theorem fineL_of {w k : Nat} : ∀ {ds : List PyData}, (∀ d ∈ ds, FineN w k d) → FineL ((w + 1) * ds.length) k ds
  | [], _ => ⟨rfl, Nat.zero_le _, Nat.zero_le _, rfl⟩
  | d :: ds, h => by
    have hd := h d List.mem_cons_self
    have ht := fineL_of fun x hx => h x (List.mem_cons_of_mem _ hx)
    refine ⟨?_, ?_, ?_, ?_⟩
    · show (PyData.leavesShort 60 d && PyData.leavesShortAll 60 ds) = true
      rw [hd.l, ht.l]; rfl
    · show d.weight + 1 + PyData.weightAll ds ≤ _
      have := hd.w; have := ht.w
      rw [List.length_cons, Nat.mul_add, Nat.mul_one]
      omega
    · show max d.depth (PyData.depthAll ds) ≤ k
      exact Nat.max_le.mpr ⟨hd.dp, ht.dp⟩
    · show (PyData.showable d && PyData.showableAll ds) = true
      rw [hd.s, ht.s]; rfl
theorem fine_tup {w k : Nat} {ds : List PyData} (h : FineL w k ds) : FineN w (k + 1) (.tuple ds) := ⟨h.l, h.w, Nat.succ_le_succ h.dp, h.s⟩
theorem fine_lst {w k : Nat} {ds : List PyData} (h : FineL w k ds) : FineN w (k + 1) (.list ds) := ⟨h.l, h.w, Nat.succ_le_succ h.dp, h.s⟩
def fineNB (w k : Nat) (d : PyData) : Bool := d.leavesShort 60 && (Nat.ble d.weight w && (Nat.ble d.depth k && d.showable))
theorem fineN_by {w k : Nat} {d : PyData} (h : fineNB w k d = true) : FineN w k d := by
  unfold fineNB at h
  obtain ⟨h1, h⟩ := Bool.and_eq_true_iff.mp h
  obtain ⟨h2, h⟩ := Bool.and_eq_true_iff.mp h
  obtain ⟨h3, h4⟩ := Bool.and_eq_true_iff.mp h
  exact ⟨h1, Nat.le_of_ble_eq_true h2, Nat.le_of_ble_eq_true h3, h4⟩
theorem fineN_word {z : Str} (h : madeB small (.str z) = true) : FineN 10 0 (.str z) := ⟨(fine_word h).l, Nat.le_trans (made_ok h).2.1 (by decide), Nat.zero_le _, rfl⟩
theorem fineN_oD {o : Option Str} (h : ∀ z, o = some z → madeB small (.str z) = true) : FineN 10 0 (oD o) := by
  cases o with
  | none => exact fineN_by (by decide +kernel)
  | some z => exact fineN_word (h z rfl)
theorem fine_kv {w k : Nat} : ∀ {es : List (PyData × PyData)}, (∀ x ∈ es, FineN w k x.1 ∧ FineN w k x.2) → PyData.leavesShortKv 60 es = true ∧ PyData.weightKv es ≤ (2 * w + 2) * es.length ∧ PyData.depthKv es ≤ k ∧ PyData.showableKv es = true
  | [], _ => ⟨rfl, Nat.zero_le _, Nat.zero_le _, rfl⟩
  | (a, b) :: es, h => by
    obtain ⟨ha, hb⟩ := h _ List.mem_cons_self
    obtain ⟨h1, h2, h3, h4⟩ := fine_kv fun x hx => h x (List.mem_cons_of_mem _ hx)
    refine ⟨?_, ?_, ?_, ?_⟩
    · show (PyData.leavesShort 60 a && PyData.leavesShort 60 b && PyData.leavesShortKv 60 es) = true
      rw [show PyData.leavesShort 60 a = true from ha.l, show PyData.leavesShort 60 b = true from hb.l, h1]; rfl
    · show a.weight + b.weight + 2 + PyData.weightKv es ≤ _
      have := ha.w; have := hb.w
      simp only at *
      rw [List.length_cons, Nat.mul_add, Nat.mul_one]
      omega
    · simp only [PyData.depthKv]
      have := ha.dp; have := hb.dp
      simp only at *
      omega
    · show (PyData.showable a && PyData.showable b && PyData.showableKv es) = true
      rw [show PyData.showable a = true from ha.s, show PyData.showable b = true from hb.s, h4]; rfl
/-- repr([(z, d)] * 2) -/
theorem fine_two {z : Str} {d : PyData} {w : Nat} (hz : FineN 10 0 (.str z)) (h : FineN w 20 d) (hw : w ≤ 50000) : (PyData.list [.tuple [.str z, d], .tuple [.str z, d]]).showable = true ∧ (PyData.list [.tuple [.str z, d], .tuple [.str z, d]]).depth ≤ 60 ∧ (PyData.list [.tuple [.str z, d], .tuple [.str z, d]]).shown.length ≤ sizeLine := by
  have h1 : FineN 50000 20 (.str z) := hz.mono (by decide) (by decide)
  have h2 := h.mono hw (Nat.le_refl 20)
  have t1 : FineN ((50000 + 1) * 2) 21 (.tuple [.str z, d]) := fine_tup (fineL_of (ds := [.str z, d]) fun x hx => by
    rcases List.mem_cons.mp hx with e | hx
    · rw [e]; exact h1
    · rw [List.mem_singleton.mp hx]; exact h2)
  have t2 := fine_lst (fineL_of (ds := [.tuple [.str z, d], .tuple [.str z, d]]) fun x hx => by
    rcases List.mem_cons.mp hx with e | hx
    · rw [e]; exact t1
    · rw [List.mem_singleton.mp hx]; exact t1)
  refine ⟨t2.s, Nat.le_trans t2.dp (by decide), ?_⟩
  have := PyData.shown_le 60 (by decide) _ t2.l
  have sz : sizeLine = 16777216 := sizeLine_eq
  have hw := t2.w
  simp only [List.length_cons, List.length_nil] at hw
  omega
end FL

namespace FL
open PySem PySem.Spec PyProof.Rows L2 StX FN FT FS FZ FP
open S1 (Dq DqA rSortedTx cr_sortedTx tLamC Chg tMethN rReprQ call_reprQ FnG)
/-! ### promises of k85 -/
def prsD : PyData → Bool
  | .tuple ds => prsB ds
  | _ => false
structure CsRow (cs : Cs) : Prop where
  ne : 1 ≤ cs.length
  z : cs.length ≤ 7
  nm : ∀ c ∈ cs, madeB small (.str c.1) = true
  fo : ∀ c ∈ cs, ∀ z, c.2 = some z → madeB small (.str z) = true
  nd : (cs.map (·.1)).Nodup
theorem row_of {cs cs0 : Cs} {ws : List Str} {n : Nat} (W : Wds ws n) (D : Drawn cs0 ws) (hn : 1 ≤ n) (hn7 : n ≤ 7) (p : cs.Perm cs0) : CsRow cs := by
  have l0 : cs0.length = n := by rw [← W.len, ← D.fst, List.length_map]
  have nd0 : (cs0.map (·.1)).Nodup := by rw [D.fst]; exact W.nd
  refine ⟨by rw [p.length_eq, l0]; exact hn, by rw [p.length_eq, l0]; exact hn7, fun c hc => ?_, fun c hc z hz => ?_, (p.map (·.1)).nodup_iff.mpr nd0⟩
  · exact W.made _ (by rw [← D.fst]; exact List.mem_map.mpr ⟨c, p.mem_iff.mp hc, rfl⟩)
  · obtain ⟨i, hi⟩ := List.getElem?_of_mem (p.mem_iff.mp hc)
    rcases D.fo i c hi with h | ⟨j, hj, h⟩
    · rw [h] at hz; cases hz
    · rw [hz] at h
      exact W.made z (List.mem_of_getElem? h.symm)
def S_copies7 (K : PySem.W.Frag) : Spec := fun Ps r Φ => ∃ (p : Addr) (n : Nat) (B : Int), Ps = [rAt p, rInt (n : Int)] ∧ r = [(p, cPot B)] ∧ 1 ≤ n ∧ n ≤ 7 ∧ B ≤ 80000 ∧ Φ = fun P r' => ∃ cs : Cs, P = rTq (pairsP K (csP cs)) ∧ CsRow cs ∧ r' = [(p, cPot (B + 40))]
def S_spoilt (K : PySem.W.Frag) : Spec := fun Ps r Φ => ∃ (p : Addr) (cs : Cs) (B : Int), Ps = [rAt p, rTq (pairsP K (csP cs))] ∧ CsRow cs ∧ r = [(p, cPot B)] ∧ B ≤ 80000 ∧ Φ = fun P r' => ∃ d : PyData, P = rVd K d ∧ ShV d ∧ FineN 2000 10 d ∧ r' = [(p, cPot (B + 4))]
def S_Keep85 (A : Ad) (K : PySem.W.Frag) : SpecR := fun Ps r Φ Ψ => ∃ (a : Addr) (d u : PyData), Ps = [rAt a, rVd K d, rDq K u] ∧ ShV d ∧ r = [(a, cOb A.c_Keeper [] [])] ∧
  (Φ = fun P r' => P = rNon ∧ cpB d = true ∧ pieceB u = true ∧ ∃ ds : List PyData, d = .tuple ds ∧ CsGood (csD ds) ∧ r' = [(a, cKee A K (csD ds) (rDq K u) 0 0 [])]) ∧
  Ψ = fun C P r' => (C = A.c_BadCopies ∧ P = rVd K d ∧ cpB d = false ∨ C = A.c_BadPiece ∧ P = rDq K u ∧ cpB d = true ∧ pieceB u = false) ∧ r' = [(a, cOb A.c_Keeper [] [])]
def cTb85 (A : Ad) : List (Addr × Str) := [(A.c_BadCopies, "copies"), (A.c_BadPiece, "piece")]
structure TxC85 (K : PySem.W.Frag) (mg : Str → Option Value) (A : Ad) (cK : Addr) : Prop where
  g1 : mg "BadCopies" = some (.ref A.c_BadCopies)
  g2 : mg "BadPiece" = some (.ref A.c_BadPiece)
  g6 : mg "KeeperError" = some (.ref cK)
  f1 : XfC K A.c_BadCopies
  f2 : XfC K A.c_BadPiece
  v1 : PySem.W.findIn K (.ref A.c_BadCopies) "value" = some none
  v2 : PySem.W.findIn K (.ref A.c_BadPiece) "value" = some none
  m11 : PySem.W.exmOne K (.ref A.c_BadCopies) (.ref A.c_BadCopies) = some true
  m21 : PySem.W.exmOne K (.ref A.c_BadPiece) (.ref A.c_BadCopies) = some false
  m22 : PySem.W.exmOne K (.ref A.c_BadPiece) (.ref A.c_BadPiece) = some true
def S_right85 (A : Ad) (T0 : Addr) : Spec := fun Ps r Φ => ∃ (p : Addr) (B : Int), Ps = [rAt p] ∧ r = [(p, cPot B), (T0, cTab (tq "_law_right"))] ∧ B ≤ 20000 ∧ Φ = fun P r' => P = rBl true ∧ r' = [(p, cPot (B + 50)), (T0, cTab (tq "_law_right"))]
def S_law85 (K : PySem.W.Frag) (T0 : Addr) : Spec := fun Ps r Φ => ∃ ns : List Int, Ps = [rLs K (ns.map rInt)] ∧ ns.length ≤ 63 ∧ r = [(T0, cTab (tq "_law_right"))] ∧ Φ = fun P r' => P = rBl true
theorem pr_mem {ds : List PyData} {x : PyData} (hx : x ∈ ds) (h : prB x = false) : cpB (.tuple ds) = false := by
  show (prsB ds && goodB (csD ds)) = false
  have : prsB ds = false := by
    rw [Bool.eq_false_iff]
    intro q
    obtain ⟨_, q⟩ := Bool.and_eq_true_iff.mp q
    obtain ⟨_, q⟩ := Bool.and_eq_true_iff.mp q
    rw [List.all_eq_true] at q
    rw [q x hx] at h
    cases h
  rw [this]
  rfl
theorem SlOk.imp {G : Hp} {σ : L2.St} {s : Sls} {P Q : Pr} (l : SlOk G σ s) (i : Nat) (hi : s[i]? = some (some P)) (k : ∀ G v, P.p G v → Q.p G v) : SlOk G σ (s.set i (some Q)) := ⟨by rw [List.length_set, l.len], fun j R e => by
  by_cases hj : i = j
  · subst hj
    have hl : i < (s.set i (some Q)).length := (List.getElem?_eq_some_iff.mp e).1
    rw [List.length_set] at hl
    rw [List.getElem?_set_self hl] at e
    cases e
    obtain ⟨v, a, b⟩ := l.at_ i P hi
    exact ⟨v, a, k _ _ b⟩
  · rw [List.getElem?_set_ne hj] at e
    exact l.at_ j R e⟩
theorem Ok.sImp {e : Ent} {s : Sls} {r : Rs} {ts : TS} {po : Po} {P Q : Pr} (i : Nat) (hi : s[i]? = some (some P)) (k : ∀ G v, P.p G v → Q.p G v) (h : Ok e (s.set i (some Q)) r ts po) : Ok e s r ts po := fun G H σ m l D d => h G H σ m (l.imp i hi k) D d
theorem wt_mem : ∀ {ds : List PyData} {x : PyData}, x ∈ ds → x.weight ≤ PyData.weightAll ds
  | d :: ds, x, h => by
    show _ ≤ d.weight + 1 + PyData.weightAll ds
    rcases List.mem_cons.mp h with rfl | h
    · omega
    · have := wt_mem h; omega
theorem wt_len : ∀ ds : List PyData, ds.length ≤ PyData.weightAll ds
  | [] => Nat.le_refl _
  | d :: ds => by
    show _ ≤ d.weight + 1 + PyData.weightAll ds
    have := wt_len ds
    rw [List.length_cons]; omega
theorem sh_of {d : PyData} (h : d.weight ≤ 10000) : Sh d := fun z e => by
  subst e
  have h : z.length ≤ 10000 := h
  exact Nat.le_trans h (by decide)
theorem shP_of {d : PyData} (h : d.weight ≤ 10000) : ShP d := fun es e => by
  subst e
  have h : PyData.weightAll es ≤ 10000 := h
  exact ⟨Nat.le_trans (Nat.le_trans (wt_len es) h) (by decide), fun x hx => sh_of (Nat.le_trans (wt_mem hx) h)⟩
theorem shV_of {d : PyData} (h : d.weight ≤ 10000) : ShV d := fun es e => by
  subst e
  have h : PyData.weightAll es ≤ 10000 := h
  exact ⟨Nat.le_trans (Nat.le_trans (wt_len es) h) (by decide), fun x hx => shP_of (Nat.le_trans (wt_mem hx) h)⟩
theorem fine_dPr {c : Str × Option Str} (h1 : madeB small (.str c.1) = true) (h2 : ∀ z, c.2 = some z → madeB small (.str z) = true) : FineN 22 1 (dPr c) := fine_tup (fineL_of (w := 10) (ds := [.str c.1, oD c.2]) fun x hx => by
  rcases List.mem_cons.mp hx with e | hx
  · rw [e]; exact fineN_word h1
  · rw [List.mem_singleton.mp hx]; exact fineN_oD h2)
theorem fine_items {ds : List PyData} (h : ∀ x ∈ ds, FineN 60 3 x) (hl : ds.length ≤ 8) : FineN 2000 10 (.tuple ds) := (fine_tup (fineL_of h)).mono (by omega) (by decide)
theorem opt_dq {K : PySem.W.Frag} {o : Option Str} : ∀ (G : Hp) (v : V), (rOpt rStr o).p G v → (rDq K (oD o)).p G v := fun G v h => by
  cases o with
  | none => have h : v = .non := h; subst h; exact .non
  | some z => have h : v = .str z := h; subst h; exact .str z
theorem tp_dq {K : PySem.W.Frag} {ds : List PyData} : ∀ (G : Hp) (v : V), (rTp (ds.map (rDq K))).p G v → (rDq K (.tuple ds)).p G v := fun G v ⟨z, a, vs, e, h, q⟩ => by
  subst e
  exact .tup (SqT.of h) (dqa_of q)
theorem tq_dq {K : PySem.W.Frag} {ds : List PyData} : ∀ (G : Hp) (v : V), (rTq (ds.map (rDq K))).p G v → (rDq K (.tuple ds)).p G v := fun G v h => (tq_vd G v h).1
theorem ok_block {e : Ent} {s : Sls} {r : Rs} {ts us : TS} {po : Po} (h : Ok e s r ts { po with nx := fun _ _ => False }) : Ok e s r (tSeq ts us) po := ok_seq (fun _ _ => False) h fun _ _ f => f.elim
theorem eo_to {s : Sls} {r r' : Rs} {to : TO} {o o' : Option Int} (h : EvO s r to o r') (k : o = o') : EvO s r to o' r' := k ▸ h
theorem np_rows {ds : List PyData} (h : ∀ x ∈ ds, isS x = false) : pB1 (.tuple ds) = false := by
  match ds, h with
  | [], _ => rfl
  | [_], _ => rfl
  | [a, b], h =>
    have := h a List.mem_cons_self
    show nmB a = false
    cases a <;> first | rfl | cases this
  | _ :: _ :: _ :: _, _ => rfl
theorem csD_dPr (cs : Cs) : csD (cs.map dPr) = cs := by
  unfold csD
  rw [List.map_map]
  have : cs.map (pairOf ∘ dPr) = cs.map id := List.map_congr_left fun c _ => by
    obtain ⟨a, o⟩ := c
    cases o <;> rfl
  rw [this, List.map_id]
theorem cp_good {d : PyData} (h : cpB d = true) : ∃ cs : Cs, d = .tuple (cs.map dPr) ∧ CsGood cs := by
  cases d with
  | tuple ds =>
    obtain ⟨h1, h2⟩ := Bool.and_eq_true_iff.mp h
    exact ⟨csD ds, by rw [← prs_eq h1], good_cs (prs_cs h1) h2⟩
  | _ => cases h
end FL

namespace FL
open PySem PySem.Spec PyProof.Rows L2 StX FN FT FS FZ FP
open S1 (Dq DqA rSortedTx cr_sortedTx tLamC Chg tMethN rReprQ call_reprQ FnG)
section
variable {s s' s1 s2 : Sls} {r r' r1 r2 r3 rc rest pre post : Rs} {ta tb te tl tn tv td : TE} {t tr tk : TA} {P Q R : Pr} {K : PySem.W.Frag} {Ω Φ Φ' : Pr → Rs → Prop} {Ps Qs Zs : List Pr} {e : Ent} {po : Po} {z z' : Str} {C a : Addr} {i j : Int} {E : XK} {d : PyData} {ds : List PyData} {ts us : TS}
/-- things that nobody asks for any more -/
theorem EvX.dropK (h : EvX s r te Φ) (k : ∀ P r1, Φ P r1 → ∃ rc rest, r1.Perm (rc ++ rest) ∧ Ω P rc) : EvX s r te Ω := fun e G H σ m l W w => h e G H σ m l W fun v G1 H1 P r1 f m1 g1 pv => by
  obtain ⟨rc, rest, p, k⟩ := k P r1 f
  exact w v G1 H1 P rc k (m1.perm p).drop g1 pv
theorem SlOk.imp2 {G : Hp} {σ : L2.St} {s : Sls} {P Q : Pr} (l : SlOk G σ s) (i : Nat) (hi : s[i]? = some (some P)) (k : ∀ v, P.p G v → Q.p G v) : SlOk G σ (s.set i (some Q)) := ⟨by rw [List.length_set, l.len], fun j R e => by
  by_cases hj : i = j
  · subst hj
    have hl : i < (s.set i (some Q)).length := (List.getElem?_eq_some_iff.mp e).1
    rw [List.length_set] at hl
    rw [List.getElem?_set_self hl] at e
    cases e
    obtain ⟨v, a, b⟩ := l.at_ i P hi
    exact ⟨v, a, k _ b⟩
  · rw [List.getElem?_set_ne hj] at e
    exact l.at_ j R e⟩
/-- a list under way is left as it is -/
theorem Ok.frz (i : Nat) (hi : s[i]? = some (some (rAt a))) (h : Ok e (s.set i (some (rLp Ps))) (pre ++ post) ts po) : Ok e s (pre ++ (a, cLs Ps) :: post) ts po := fun G H σ m l D d => by
  obtain ⟨o, ho, ⟨z, vs, rfl, al⟩, gn, m2⟩ := m.freezeAt
  have sn := same_new (o := .lst vs) gn
  exact h _ H σ m2 ((l.mono sn).imp2 i hi fun v pv => ⟨z, a, vs, pv, upd_same, al.mono sn⟩) D (d.mono sn)
/-- one list behind another -/
theorem ex_catK (h : EvX s r ta fun P r1 => ∃ Ps, P = rLp Ps ∧ EvX s r1 tb fun Q r2 => ∃ Qs, Q = rLp Qs ∧ Ps.length + Qs.length ≤ sizeLine ∧ Ω (rLp (Ps ++ Qs)) r2) : EvX s r (tOp rCat ta tb) Ω := fun e G H σ m l W w => h e G H σ m l _ fun x G1 H1 P r1 ⟨Ps, e1, k⟩ m1 g1 px => k e G1 H1 σ m1 (l.mono g1) _ fun y G2 H2 Q r2 ⟨Qs, e2, hz, k2⟩ m2 g2 py => by
  subst e1 e2
  obtain ⟨_, a, vs, ex, hx, al⟩ := (rLp Ps).m g2 px
  obtain ⟨_, b, ws, ey, hy, al2⟩ := py
  refine ⟨a, b, vs, ws, ex, ey, m2.sub _ _ hx, m2.sub _ _ hy, by rw [al.len, al2.len]; exact hz, fun p hp => ?_⟩
  have gn := same_new (o := .lst (vs ++ ws)) (m2.sub.free hp)
  exact w _ (upd G2 p (.lst (vs ++ ws))) _ _ _ k2 (m2.new hp) (g1.trans (g2.trans gn)) ⟨by rw [List.length_append]; exact hz, p, _, rfl, upd_same, (al.mono gn).app (al2.mono gn)⟩
theorem ex_andV {b : Bool} (ha : Ev s r ta (rBl b) r1) (hT : b = true → EvX s r1 tb Ω) (hF : b = false → Ω (rBl false) r1) : EvX s r (tAndV ta tb) Ω := fun e G H σ m l W w => ha e G H σ m l _ fun v G1 H1 m1 g1 pv => ⟨b, pv, by
  cases b with
  | true => exact hT rfl e G1 H1 σ m1 (l.mono g1) _ fun v G2 H2 P r2 k m2 g2 pv => w v G2 H2 P r2 k m2 (g1.trans g2) pv
  | false => exact w _ G1 H1 _ r1 (hF rfl) m1 g1 rfl⟩
theorem ex_allK (h : EvXA s r t fun Ps r1 => ∃ bs : List Bool, Ps = [rLs K (bs.map rBl)] ∧ Ω (rBl (bs.all id)) r1) : EvX s r (tCB (rAll K) t) Ω := fun e G H σ m l W w => h e G H σ m l _ fun vs G1 H1 Ps r1 ⟨bs, e1, k⟩ m1 g1 al => by
  subst e1
  cases al with
  | cons av t =>
    cases t
    obtain ⟨z, a, ws, ex, hs, ak⟩ := av
    subst ex
    exact ⟨a, bs, rfl, by rw [← all2_bls ak]; exact m1.sub.seq hs, w _ G1 H1 _ r1 k m1 g1 rfl⟩
theorem Ok.dropK (pm : r.Perm (rc ++ rest)) (h : Ok e s rc ts po) : Ok e s r ts po := fun G H σ m l D d => h G H σ (m.perm pm).drop l D d
/-- k.p of a keeper -/
theorem ev_kgetM {A : Ad} {R : Cs → Pr → Int → Int → List (Key × Pr) → Pr → Prop} {k : Addr} {cs : Cs} {Pp P0 : Pr} {t n : Int} {k1 : List (Key × Pr)} {i : Nat} (hi : s[i]? = some (some (rAt k))) (hm : r.Perm ((k, cKee A K cs Pp t n k1) :: rest)) (h : R cs Pp t n k1 P0) : Ev s r (tProp A.c_Keeper (spM (S_Kget A K R)) [] E (tVar i)) P0 r := (ev_kget hi h).perm hm hm.symm
theorem ev_kcallM {A : Ad} {R : Cs → Pr → Int → Int → List (Key × Pr) → Pr → Prop} {k : Addr} {cs : Cs} {Pp P0 : Pr} {t n : Int} {k1 : List (Key × Pr)} {i : Nat} {nm : Str} (hi : s[i]? = some (some (rAt k))) (hm : r.Perm ((k, cKee A K cs Pp t n k1) :: rest)) (h : R cs Pp t n k1 P0) (hl : look nsKeeper nm = none := by decide +kernel) : Ev s r (tMeth A.c_Keeper nm (spM (S_Kget A K R)) [] E (tVar i) tNil) P0 r :=
  (EvX.ev (P := P0) (r' := (k, cKee A K cs Pp t n k1) :: rest) (ex_meth (S := S_Kget A K R) (Φ := fun P r' => P = P0 ∧ r' = [(k, cKee A K cs Pp t n k1)]) (rc := [(k, cKee A K cs Pp t n k1)]) (rest := rest) (ev_var hi) List.mem_cons_self hl ea_nil ⟨k, cs, Pp, t, n, k1, P0, rfl, h, rfl, rfl⟩) fun P' r'' ⟨r1, ⟨h1, h2⟩, h3⟩ => ⟨h1, by rw [h3, h2]; rfl⟩).perm hm hm.symm
/-! ### the rows compared -/
theorem dp_oD {G : Hp} {v : V} {o : Option Str} (h : (rOpt rStr o).p G v) : Dp K G v (oD o) := by
  cases o with
  | none => have h : v = .non := h; subst h; exact .non
  | some z => have h : v = .str z := h; subst h; exact .str z
theorem dp_pair {G H : Hp} (sm : Same G H) {c : Str × Option Str} {v : V} (h : (rPair K c).p G v) : Dp K H v (dPr c) := by
  obtain ⟨_, a, vs, e, hs, al⟩ := h
  subst e
  refine .tup (SqT.ext hs sm) ?_
  cases al with
  | cons x al => cases al with
    | cons y al =>
      cases al
      have x : _ = V.str c.1 := x
      subst x
      exact .cons (.str _) (.cons (dp_oD (Pr.m _ sm y)) .nil)
theorem dp_pairs {G H : Hp} (sm : Same G H) : ∀ {vs : List V} {cs : Cs}, All2 G vs (cs.map (rPair K)) → DpAll K H vs (cs.map dPr)
  | _, [], h => by cases h; exact .nil
  | _, c :: cs, h => by
    rw [List.map_cons] at h
    cases h with
    | cons a t => exact .cons (dp_pair sm a) (dp_pairs sm t)
theorem lay_pairs : ∀ cs : Cs, (∀ c ∈ cs, PyData.strOk c.1 = true ∧ ∀ z, c.2 = some z → PyData.strOk z = true) → PyData.canLayAll0 (cs.map dPr) = true ∧ PyData.depthAll (cs.map dPr) ≤ 1 ∧ PyData.eqvAll (cs.map dPr) (cs.map dPr) = true
  | [], _ => ⟨rfl, Nat.zero_le _, by simp only [List.map_nil, PyData.eqvAll]⟩
  | c :: cs, h => by
    obtain ⟨h1, h2, h3⟩ := lay_pairs cs fun x hx => h x (List.mem_cons_of_mem _ hx)
    obtain ⟨a1, a2⟩ := h c List.mem_cons_self
    have k1 : PyData.canLay0 (dPr c) = true ∧ PyData.depth (dPr c) ≤ 1 ∧ PyData.eqv (dPr c) (dPr c) = true := by
      obtain ⟨a, o⟩ := c
      unfold dPr
      cases o with
      | none => simp only [oD, PyData.canLay0, PyData.canLayAll0, PyData.depth, PyData.depthAll, PyData.eqv, PyData.eqvAll, a1]; simp
      | some z => simp only [oD, PyData.canLay0, PyData.canLayAll0, PyData.depth, PyData.depthAll, PyData.eqv, PyData.eqvAll, a1, a2 z rfl]; simp
    simp only [List.map_cons, PyData.canLayAll0, PyData.depthAll, PyData.eqvAll, h1, h3, k1.1, k1.2.2, Bool.and_self, true_and, and_true]
    exact Nat.max_le.mpr ⟨k1.2.1, h2⟩
theorem ev_neRows {cs : Cs} (h : ∀ c ∈ cs, PyData.strOk c.1 = true ∧ ∀ z, c.2 = some z → PyData.strOk z = true) (ha : Ev s r ta (rTs K (cs.map (rPair K))) r1) (hb : Ev s r1 tb (rTs K (cs.map (rPair K))) r2) : Ev s r (tOp (rNeD K) ta tb) (rBl false) r2 := ev_op ha hb fun G H x y sm hx hy W w => by
  obtain ⟨_, a, vs, e1, h1, q1⟩ := hx
  obtain ⟨_, b, ws, e2, h2, q2⟩ := hy
  subst e1 e2
  obtain ⟨l1, l2, l3⟩ := lay_pairs cs h
  have sh : SeqAt.shaped (.tuple (cs.map dPr)) = true := by
    show (PyData.canLay0 (.tuple (cs.map dPr)) && decide (PyData.depth (.tuple (cs.map dPr)) ≤ 64)) = true
    have d : PyData.depth (.tuple (cs.map dPr)) ≤ 64 := by
      simp only [PyData.depth]
      omega
    rw [show PyData.canLay0 (.tuple (cs.map dPr)) = true by simp only [PyData.canLay0, l1], decide_eq_true d]
    rfl
  refine ⟨_, _, .tup (SqT.ext h1 sm) (dp_pairs sm q1), .tup (SqT.ext h2 sm) (dp_pairs sm q2), sh, sh, ?_⟩
  rw [show PyData.eqv (.tuple (cs.map dPr)) (.tuple (cs.map dPr)) = true by simp only [PyData.eqv, l3]]
  exact w _ rfl
theorem ev_notInTI {ns : List Int} (ha : Ev s r ta (rInt i) r1) (hb : Ev s r1 tb (rTs K (ns.map rInt)) r2) : Ev s r (tOp (rIn K true) ta tb) (rBl (!decide (i ∈ ns))) r2 := ev_op ha hb fun G H x y sm hx ⟨_, b, ws, e2, h2, q2⟩ W w => by
  have f2 := all2_ints q2
  have hx : x = .int i := hx
  subst f2 e2 hx
  refine ⟨b, _, rfl, .inr (SqT.ext h2 sm), rfl, by rw [List.all_map]; exact List.all_eq_true.mpr fun _ _ => rfl, w _ ?_⟩
  show V.bl (!inV (.int i) (ns.map V.int)) = V.bl (!decide (i ∈ ns))
  congr 2
  unfold inV
  rw [List.any_map]
  rw [Bool.eq_iff_iff, List.any_eq_true, decide_eq_true_eq]
  refine ⟨fun ⟨y, hy, h⟩ => ?_, fun h => ⟨i, h, by simp [eqV]⟩⟩
  have h : y = i := by simpa [eqV] using h
  rw [← h]
  exact hy
theorem ev_eqLI {ns : List Int} (ha : Ev s r ta (rLs K (ns.map rInt)) r1) (hb : Ev s r1 tb (rLs K (ns.map rInt)) r2) : Ev s r (tOp (rEqD K) ta tb) (rBl true) r2 := ev_op ha hb fun G H x y sm ⟨_, a, vs, e1, h1, q1⟩ ⟨_, b, ws, e2, h2, q2⟩ W w => by
  subst e1 e2
  obtain ⟨l1, l2, l3⟩ := lay_ints ns
  have sh : SeqAt.shaped (.list (ns.map PyData.int)) = true := by
    show (PyData.canLay0 (.list (ns.map PyData.int)) && decide (PyData.depth (.list (ns.map PyData.int)) ≤ 64)) = true
    have d : PyData.depth (.list (ns.map PyData.int)) ≤ 64 := by
      simp only [PyData.depth, l2]
      decide
    rw [show PyData.canLay0 (.list (ns.map PyData.int)) = true by simp only [PyData.canLay0, l1], decide_eq_true d]
    rfl
  refine ⟨_, _, .lst (sm.seq h1) (dp_ints (q1.mono sm)), .lst (sm.seq h2) (dp_ints (q2.mono sm)), sh, sh, ?_⟩
  rw [show PyData.eqv (.list (ns.map PyData.int)) (.list (ns.map PyData.int)) = true by simp only [PyData.eqv, l3]]
  exact w _ rfl
/-- [0, (), (), ()] -/
def rK0 (K : PySem.W.Frag) : Pr := rLs K [rInt 0, rTs K [], rTs K [], rTs K []]
theorem dp_k0 {G H : Hp} {v : V} (sm : Same G H) (h : (rK0 K).p G v) : Dp K H v (.list [.int 0, .tuple [], .tuple [], .tuple []]) := by
  obtain ⟨_, a, vs, e, hs, al⟩ := h
  subst e
  refine .lst (sm.seq hs) ?_
  have tu : ∀ {v : V}, (rTs K []).p G v → Dp K H v (.tuple []) := fun {v} h => by
    obtain ⟨_, b, ws, rfl, hb, q⟩ := h
    cases q
    exact .tup (SqT.ext hb sm) .nil
  cases al with
  | cons x al => cases al with
    | cons y al => cases al with
      | cons z al => cases al with
        | cons u al =>
          cases al
          have x : _ = V.int 0 := x
          subst x
          exact .cons (.int 0) (.cons (tu y) (.cons (tu z) (.cons (tu u) .nil)))
theorem ev_neK0 (ha : Ev s r ta (rK0 K) r1) (hb : Ev s r1 tb (rK0 K) r2) : Ev s r (tOp (rNeD K) ta tb) (rBl false) r2 := ev_op ha hb fun G H x y sm hx hy W w => ⟨_, _, dp_k0 sm hx, dp_k0 sm hy, by decide +kernel, by decide +kernel, w _ (by rw [show PyData.eqv (.list [.int 0, .tuple [], .tuple [], .tuple []]) (.list [.int 0, .tuple [], .tuple [], .tuple []]) = true by decide +kernel]; rfl)⟩
/-- unit is whole and within bounds -/
theorem isI_piece {u : PyData} : (isI u && (!isB u && intB (fun i => decide (0 < i) && decide (i < 65)) u)) = pieceB u := by
  cases u with
  | int i =>
    show (true && (!false && (decide (0 < i) && decide (i < 65)))) = (decide (1 ≤ i) && decide (i ≤ 64))
    rw [show decide (0 < i) = decide (1 ≤ i) from decide_eq_decide.mpr (by omega), show decide (i < 65) = decide (i ≤ 64) from decide_eq_decide.mpr (by omega)]
    rfl
  | _ => rfl
end
end FL

namespace FL
open PySem PySem.Spec PyProof.Rows L2 StX FN FT FS FZ
open S1 (pe_chain3 cr_sortedPs cr_sortedTx call_reprQ op_powW)
def top (i : Nat) : Stmt := PySem.Challenge.pw_oneedition_k85_copies_of_any_value.main.body.getD i (.Pass ⟨0, 0, 0, 0⟩)
section
variable {P : Program} {w : World} {K : PySem.W.Frag} {mg : Str → Option Value} {base : Heap} {A : Ad} {T0 : Addr}
abbrev s_reached : Stmt := top 42
abbrev N_reached : List Str := ["masks", "found", "place", "mask", "middle", "bit"]
theorem sc_reached : FnScope N_reached ["masks"] (defScope s_reached) := ⟨rfl, rfl, rfl, by decide +kernel, rfl, by decide +kernel, by decide +kernel⟩
theorem ok_reached (T : TxK K mg A) (T2 : TxE P K mg A)   {f : Addr} {fd : FuncData} (F : FunD K "reached" "reached" (defArgs s_reached) (defBody s_reached) (defScope s_reached) [] [] f fd) : FnOk P w K mg base CX0 1 f fd ["masks"] (spP fun Ps P => ∃ ms : List Int, Ps = [rLs K (ms.map rInt)] ∧ ms.length ≤ 1000 ∧ P = rLs K ((reachedF ms).map rInt)) := by
  refine F.ok sc_reached (fun vs H Q E h => len_P h (fun Ps P hT => by first | (obtain ⟨_, rfl, _⟩ := hT; rfl) | (obtain ⟨_, _, rfl, _⟩ := hT; rfl) | (obtain ⟨_, _, _, rfl, _⟩ := hT; rfl) | (obtain ⟨_, _, _, _, rfl, _⟩ := hT; rfl) | (obtain ⟨_, _, _, _, _, rfl, _⟩ := hT; rfl) | (obtain ⟨_, _, _, _, _, _, rfl, _⟩ := hT; rfl) | (obtain ⟨_, _, _, _, _, _, _, rfl, _⟩ := hT; rfl) | (obtain ⟨_, _, _, _, _, _, _, _, rfl, _⟩ := hT; rfl) | (obtain ⟨rfl, _⟩ := hT; rfl))) (fun cdv A0 outer s H vs Q E hr h => ?_)
  · have nd := sc_reached.nd
    have hu := hu_of hr
    refine ⟨_, PSs.nox (pss_cons (ps_set (i := 1) nd rfl (by first | exact Or.inl rfl | exact Or.inr rfl) (pe_lc (own := [("place", 2), ("mask", 3)]) (g := (gTup K 2 (gCons (gName 2) (gCons (gName 3) gNil)))) (tt := tYes) rfl nd (pi_enum (by rfl) T.n_enumerate (pa_cons (pv 0) pa_nil)) (blkOk_by (N := N_reached) (sc := defScope s_reached) (own := [("place", 2), ("mask", 3)]) (by decide +kernel)) (fun _ _ _ _ _ => (pg_tup rfl (pgs_cons (pg_name (i := 2) nd rfl (by first | exact Or.inl rfl | exact Or.inr rfl)) (pgs_cons (pg_name (i := 3) nd rfl (by first | exact Or.inl rfl | exact Or.inr rfl)) pgs_nil)))) (fun _ _ _ _ _ => pts_nil) (fun _ _ _ _ _ => (pe_op op_or (pv 3) (pe_op op_shl pe_int (pv 2))))))
      (pss_cons (ps_for PassesOwn.never rfl (pi_range1 rfl T.n_range (pa_cons (pe_callB (id := "len") call_len (by rfl) T.n_len (by decide +kernel) (pa_cons (pv 1) pa_nil)) pa_nil)) (pg_name (i := 4) nd rfl (by first | exact Or.inl rfl | exact Or.inr rfl)) (pss_cons (ps_set (i := 5) nd rfl (by first | exact Or.inl rfl | exact Or.inr rfl) (pe_op op_shl pe_int (pv 4)))
      (pss_one (ps_set (i := 1) nd rfl (by first | exact Or.inl rfl | exact Or.inr rfl) (pe_lc (own := [("mask", 3)]) (g := (gName 3)) (tt := tYes) rfl nd (pi_list (pv 1)) (blkOk_by (N := N_reached) (sc := defScope s_reached) (own := [("mask", 3)]) (by decide +kernel)) (fun _ _ _ _ _ => (pg_name (i := 3) nd rfl (by first | exact Or.inl rfl | exact Or.inr rfl))) (fun _ _ _ _ _ => pts_nil) (fun _ _ _ _ _ => (pe_ifExp (pt_tr (K := K) (pe_op op_and (pv 3) (pv 5))) (pe_op op_or (pv 3) (pe_ix (r := rIxL K) ix_list (pv 1) (pv 4) (fun _ _ => rfl))) (pv 3))))))))
      (pss_one (ps_ret (pv 1))))), ?_⟩
    refine run_P h fun Ps P hT e => ?_
    obtain ⟨ms, rfl, hz, rfl⟩ := hT
    refine ok_seq1 (ok_asg (ev_lcM K (fun x => rInt (Builtin.bitOr x.1 (bitF x.2))) (ei_enumM (ea_cons (ev_var rfl) ea_nil)) fun _ x hx => ⟨_, _, bg2, all_in, ?_⟩) ⟨rfl, rfl⟩) ?_
    · have hl := (List.mem_zipIdx hx).2.1
      refine ev_or (ev_var rfl) (ev_shl ev_int (ev_var rfl) ⟨by omega, by omega, by decide⟩)
    let S : List Nat → List Int := fun pre => pre.foldl (fun (f : List Int) m => f.map fun x => if (Builtin.bitAnd x (bitF m) != 0) = true then Builtin.bitOr x (f.getD m 0) else x) (ms.zipIdx.map fun x => Builtin.bitOr x.1 (bitF x.2))
    have hS : ∀ l, (S l).length = ms.length := fun l => reach_len l _ (by rw [List.length_map, List.length_zipIdx])
    have e0 : (List.map (fun x => rInt (Builtin.bitOr x.fst (bitF x.snd))) ms.zipIdx) = (S []).map rInt := by show _ = List.map rInt (List.map _ _); rw [List.map_map]; rfl
    have el : (List.map rInt (S [])).length = ms.length := by rw [List.length_map, hS]
    rw [e0]
    refine ok_seqL [none, some (rLs K ((reachedF ms).map rInt)), none, none, none, none] [] (ok_forS (fun pre => [none, some (rLs K ((S pre).map rInt)), none, none, none, none]) (fun _ => []) (ei_rngM (ea_cons (ev_lenL (ea_cons (ev_var rfl) ea_nil)) ea_nil) (by rw [el]; exact Nat.le_trans hz (by decide))) (.skip (.keep (Lo.refl _))) rfl ?_ fun s' hl => ⟨?_, rfl⟩) ?_
    · intro _ pre m suf hm
      have hml : m < ms.length := by
        have : m ∈ List.range (List.map rInt (S [])).length := by rw [hm]; exact List.mem_append_right _ List.mem_cons_self
        rw [el] at this
        exact List.mem_range.mp this
      refine ⟨_, _, bg1, ok_seq1 (ok_asg (ev_shl ev_int (ev_var rfl) ⟨by omega, by omega, by decide⟩) ⟨rfl, rfl⟩) ?_⟩
      refine ok_asg (ev_lcM K (fun x => rInt (if (Builtin.bitAnd x (bitF m) != 0) = true then Builtin.bitOr x ((S pre).getD m 0) else x)) (ei_list (ev_var rfl)) fun _ x hx => ⟨_, _, bg1, all_in, ?_⟩) ⟨?_, rfl⟩
      · refine ev_if (et_trI (ev_and (ev_var rfl) (ev_var rfl))) (fun h => ?_) (fun h => ?_)
        · have h2 : (Builtin.bitAnd x (bitF m) != 0) = true := h
          rw [if_pos h2]
          refine ev_or (ev_var rfl) (ev_ixL (ev_var rfl) (ev_var rfl) (by omega) ?_)
          rw [Int.toNat_natCast, List.getElem?_map, List.getElem?_eq_getElem (by rw [hS]; exact hml), List.getD_eq_getElem?_getD, List.getElem?_eq_getElem (by rw [hS]; exact hml)]
          rfl
        · have h2 : ¬ (Builtin.bitAnd x (bitF m) != 0) = true := by rw [show (Builtin.bitAnd x (bitF m) != 0) = false from h]; decide
          rw [if_neg h2]
          exact ev_var rfl
      · have e1 : S (pre ++ [m]) = (S pre).map fun x => if (Builtin.bitAnd x (bitF m) != 0) = true then Builtin.bitOr x ((S pre).getD m 0) else x := List.foldl_append ..
        rw [e1, List.map_map]
        exact .skip (.keep (.skip (.skip (.skip (.skip .nil)))))
    · rw [el] at hl
      exact hl
    · exact ok_ret (ev_var rfl) rfl
abbrev s_turned : Stmt := top 43
abbrev N_turned : List Str := ["masks", "found", "place", "bit", "other", "mask"]
theorem sc_turned : FnScope N_turned ["masks"] (defScope s_turned) := ⟨rfl, rfl, rfl, by decide +kernel, rfl, by decide +kernel, by decide +kernel⟩
theorem ok_turned (T : TxK K mg A) (T2 : TxE P K mg A)   {f : Addr} {fd : FuncData} (F : FunD K "turned" "turned" (defArgs s_turned) (defBody s_turned) (defScope s_turned) [] [] f fd) : FnOk P w K mg base CX0 1 f fd ["masks"] (spP fun Ps P => Ps = [rLs K []] ∧ P = rLs K []) := by
  refine F.ok sc_turned (fun vs H Q E h => len_P h (fun Ps P hT => by first | (obtain ⟨_, rfl, _⟩ := hT; rfl) | (obtain ⟨_, _, rfl, _⟩ := hT; rfl) | (obtain ⟨_, _, _, rfl, _⟩ := hT; rfl) | (obtain ⟨_, _, _, _, rfl, _⟩ := hT; rfl) | (obtain ⟨_, _, _, _, _, rfl, _⟩ := hT; rfl) | (obtain ⟨_, _, _, _, _, _, rfl, _⟩ := hT; rfl) | (obtain ⟨_, _, _, _, _, _, _, rfl, _⟩ := hT; rfl) | (obtain ⟨_, _, _, _, _, _, _, _, rfl, _⟩ := hT; rfl) | (obtain ⟨rfl, _⟩ := hT; rfl))) (fun cdv A0 outer s H vs Q E hr h => ?_)
  · have nd := sc_turned.nd
    have hu := hu_of hr
    refine ⟨_, PSs.nox (pss_cons (ps_set (i := 1) nd rfl (by first | exact Or.inl rfl | exact Or.inr rfl) (pe_lst pa_nil))
      (pss_cons (ps_for PassesOwn.never rfl (pi_range1 rfl T.n_range (pa_cons (pe_callB (id := "len") call_len (by rfl) T.n_len (by decide +kernel) (pa_cons (pv 0) pa_nil)) pa_nil)) FN.pg_never FN.pss_never)
      (pss_one (ps_ret (pv 1))))), ?_⟩
    refine run_P h fun Ps P hT e => ?_
    obtain ⟨rfl, rfl⟩ := hT
    refine ok_seqX (F := rAt) (ρ := fun a => [(a, cLs [])]) ex_newL fun a => ?_
    refine ok_seq1 (ok_forE (ei_rngE (ea_cons (ev_len0 (ea_cons (ev_var rfl) ea_nil)) ea_nil)) ⟨rfl, rfl⟩) ?_
    exact ok_ret (ev_frL (pre := []) (post := []) (ev_var rfl)) rfl
abbrev s_masks_by : Stmt := top 44
abbrev N_masks_by : List Str := ["words", "shared", "place", "word"]
theorem sc_masks_by : FnScope N_masks_by ["words"] (defScope s_masks_by) := ⟨rfl, rfl, rfl, by decide +kernel, rfl, by decide +kernel, by decide +kernel⟩
theorem ok_masks_by (T : TxK K mg A) (T2 : TxE P K mg A)   {f : Addr} {fd : FuncData} (F : FunD K "masks_by" "masks_by" (defArgs s_masks_by) (defBody s_masks_by) (defScope s_masks_by) [] [] f fd) : FnOk P w K mg base CX0 1 f fd ["words"] (spP fun Ps P => Ps = [rLs K []] ∧ P = rLs K []) := by
  refine F.ok sc_masks_by (fun vs H Q E h => len_P h (fun Ps P hT => by first | (obtain ⟨_, rfl, _⟩ := hT; rfl) | (obtain ⟨_, _, rfl, _⟩ := hT; rfl) | (obtain ⟨_, _, _, rfl, _⟩ := hT; rfl) | (obtain ⟨_, _, _, _, rfl, _⟩ := hT; rfl) | (obtain ⟨_, _, _, _, _, rfl, _⟩ := hT; rfl) | (obtain ⟨_, _, _, _, _, _, rfl, _⟩ := hT; rfl) | (obtain ⟨_, _, _, _, _, _, _, rfl, _⟩ := hT; rfl) | (obtain ⟨_, _, _, _, _, _, _, _, rfl, _⟩ := hT; rfl) | (obtain ⟨rfl, _⟩ := hT; rfl))) (fun cdv A0 outer s H vs Q E hr h => ?_)
  · have nd := sc_masks_by.nd
    have hu := hu_of hr
    refine ⟨_, PSs.nox (pss_cons (ps_set (i := 1) nd rfl (by first | exact Or.inl rfl | exact Or.inr rfl) pe_dnewK)
      (pss_cons (ps_for PassesOwn.never rfl (pi_enum (by rfl) T.n_enumerate (pa_cons (pv 0) pa_nil)) FN.pg_never FN.pss_never)
      (pss_one (ps_ret (pe_lc (own := [("place", 2), ("word", 3)]) (g := FN.xG) (tt := FN.xT) (te := FN.xE) rfl nd (pi_enum (by rfl) T.n_enumerate (pa_cons (pv 0) pa_nil)) (blkOk_by (N := N_masks_by) (sc := defScope s_masks_by) (own := [("place", 2), ("word", 3)]) (by decide +kernel)) (fun _ _ _ _ _ => FN.pg_never) (fun _ _ _ _ _ => FN.pts_never) (fun _ _ _ _ _ => FN.pe_never)))))), ?_⟩
    refine run_P h fun Ps P hT e => ?_
    obtain ⟨rfl, rfl⟩ := hT
    refine ok_seqX (F := rAt) (ρ := fun a => [(a, cDk [])]) ex_newD fun a => ?_
    refine ok_seq1 (ok_forE (ei_enumE (ea_cons (ev_var rfl) ea_nil)) ⟨rfl, rfl⟩) ?_
    exact Ok.pick [0] 0 (ok_ret (ev_lcE K (ei_enumE (ea_cons (ev_var rfl) ea_nil))) rfl)
abbrev s_Steps_words_of : Stmt := inClass (top 46) 2
abbrev N_Steps_words_of : List Str := ["self", "words", "masks", "word", "mask"]
theorem sc_Steps_words_of : FnScope N_Steps_words_of ["self", "words", "masks"] (defScope s_Steps_words_of) := ⟨rfl, rfl, rfl, by decide +kernel, rfl, by decide +kernel, by decide +kernel⟩
theorem ok_Steps_words_of (T : TxK K mg A) (T2 : TxE P K mg A)   {f : Addr} {fd : FuncData} (F : FunD K "words_of" "Steps.words_of" (defArgs s_Steps_words_of) (defBody s_Steps_words_of) (defScope s_Steps_words_of) [] [] f fd) : FnOk P w K mg base CX0 1 f fd ["self", "words", "masks"] (spM fun Ps r Φ => ∃ a : Addr, Ps = [rAt a, rLs K [], rLs K []] ∧ r = [] ∧ Φ = fun P r' => P = rLs K [] ∧ r' = []) := by
  refine F.ok sc_Steps_words_of (fun vs H Q E h => len_M h (fun Ps r Φ hT => by first | (obtain ⟨_, rfl, _⟩ := hT; rfl) | (obtain ⟨_, _, rfl, _⟩ := hT; rfl) | (obtain ⟨_, _, _, rfl, _⟩ := hT; rfl) | (obtain ⟨_, _, _, _, rfl, _⟩ := hT; rfl) | (obtain ⟨_, _, _, _, _, rfl, _⟩ := hT; rfl) | (obtain ⟨_, _, _, _, _, _, rfl, _⟩ := hT; rfl) | (obtain ⟨_, _, _, _, _, _, _, rfl, _⟩ := hT; rfl) | (obtain ⟨_, _, _, _, _, _, _, _, rfl, _⟩ := hT; rfl) | (obtain ⟨rfl, _⟩ := hT; rfl))) (fun cdv A0 outer s H vs Q E hr h => ?_)
  · have nd := sc_Steps_words_of.nd
    have hu := hu_of hr
    refine ⟨_, PSs.nox (pss_one (ps_ret (pe_callB (id := "sorted") (cr_sortedSS rfl) (by rfl) T.n_sorted (by decide +kernel) (pa_cons (FN.pe_scE (own := [("word", 3), ("mask", 4)]) rfl nd (FZ.pi_z2 (by rfl) T.n_zip (pa_cons (pv 1) (pa_cons (pv 2) pa_nil))) (blkOk_by (N := N_Steps_words_of) (sc := defScope s_Steps_words_of) (own := [("word", 3), ("mask", 4)]) (by decide +kernel))) pa_nil)))), ?_⟩
    refine run_M h fun Ps r Φ hT e => ?_
    obtain ⟨a, rfl, rfl, rfl⟩ := hT
    exact ok_ret (ev_sortedE (ei_z2E (ea_cons (ev_var rfl) (ea_cons (ev_var rfl) ea_nil)) isq_L isq_L)) ⟨rfl, rfl⟩
abbrev s_Steps_older_masks : Stmt := inClass (top 46) 4
abbrev N_Steps_older_masks : List Str := ["self", "meanings", "weak_masks", "found", "back", "mask", "here", "place", "between", "weak"]
theorem sc_Steps_older_masks : FnScope N_Steps_older_masks ["self", "meanings", "weak_masks"] (defScope s_Steps_older_masks) := ⟨rfl, rfl, rfl, by decide +kernel, rfl, by decide +kernel, by decide +kernel⟩
theorem ok_Steps_older_masks (T : TxK K mg A) (T2 : TxE P K mg A) (D_turned : CalF P w K mg base CX0 1 "turned" ["masks"] (spP fun Ps P => Ps = [rLs K []] ∧ P = rLs K []))  {f : Addr} {fd : FuncData} (F : FunD K "older_masks" "Steps.older_masks" (defArgs s_Steps_older_masks) (defBody s_Steps_older_masks) (defScope s_Steps_older_masks) [] [] f fd) : FnOk P w K mg base CX0 2 f fd ["self", "meanings", "weak_masks"] (spM fun Ps r Φ => ∃ a : Addr, Ps = [rAt a, rLs K [], rLs K []] ∧ r = [] ∧ Φ = fun P r' => P = rLs K [] ∧ r' = []) := by
  refine F.ok sc_Steps_older_masks (fun vs H Q E h => len_M h (fun Ps r Φ hT => by first | (obtain ⟨_, rfl, _⟩ := hT; rfl) | (obtain ⟨_, _, rfl, _⟩ := hT; rfl) | (obtain ⟨_, _, _, rfl, _⟩ := hT; rfl) | (obtain ⟨_, _, _, _, rfl, _⟩ := hT; rfl) | (obtain ⟨_, _, _, _, _, rfl, _⟩ := hT; rfl) | (obtain ⟨_, _, _, _, _, _, rfl, _⟩ := hT; rfl) | (obtain ⟨_, _, _, _, _, _, _, rfl, _⟩ := hT; rfl) | (obtain ⟨_, _, _, _, _, _, _, _, rfl, _⟩ := hT; rfl) | (obtain ⟨rfl, _⟩ := hT; rfl))) (fun cdv A0 outer s H vs Q E hr h => ?_)
  · have nd := sc_Steps_older_masks.nd
    have hu := hu_of hr
    refine ⟨_, PSs.nox (pss_cons (ps_set (i := 3) nd rfl (by first | exact Or.inl rfl | exact Or.inr rfl) (pe_lst pa_nil))
      (pss_cons (ps_set (i := 4) nd rfl (by first | exact Or.inl rfl | exact Or.inr rfl) (pe_cF D_turned pass0 hr rfl (pa_cons (pv 1) pa_nil)))
      (pss_cons (ps_for PassesOwn.never rfl (pi_list (pv 1)) FN.pg_never FN.pss_never)
      (pss_one (ps_ret (pv 3)))))), ?_⟩
    refine run_M h fun Ps r Φ hT e => ?_
    obtain ⟨a, rfl, rfl, rfl⟩ := hT
    refine ok_seqX (F := rAt) (ρ := fun a => [(a, cLs [])]) ex_newL fun f => ?_
    refine ok_seq1 (ok_asg (ev_call (ea_cons (ev_var rfl) ea_nil) ⟨rfl, rfl⟩) ⟨rfl, rfl⟩) ?_
    refine ok_seq1 (ok_forE (ei_list (ev_var rfl)) ⟨rfl, rfl⟩) ?_
    exact ok_ret (ev_frL (pre := []) (post := []) (ev_var rfl)) ⟨rfl, rfl⟩
abbrev s_Steps_book_of : Stmt := inClass (top 46) 5
abbrev N_Steps_book_of : List Str := ["self", "masks", "many", "found", "number", "mask", "place"]
theorem sc_Steps_book_of : FnScope N_Steps_book_of ["self", "masks", "many"] (defScope s_Steps_book_of) := ⟨rfl, rfl, rfl, by decide +kernel, rfl, by decide +kernel, by decide +kernel⟩
theorem ok_Steps_book_of (T : TxK K mg A) (T2 : TxE P K mg A)   {f : Addr} {fd : FuncData} (F : FunD K "book_of" "Steps.book_of" (defArgs s_Steps_book_of) (defBody s_Steps_book_of) (defScope s_Steps_book_of) [] [] f fd) : FnOk P w K mg base CX0 1 f fd ["self", "masks", "many"] (spM (S_book A K)) := by
  refine F.ok sc_Steps_book_of (fun vs H Q E h => len_M h (fun Ps r Φ hT => by first | (obtain ⟨_, rfl, _⟩ := hT; rfl) | (obtain ⟨_, _, rfl, _⟩ := hT; rfl) | (obtain ⟨_, _, _, rfl, _⟩ := hT; rfl) | (obtain ⟨_, _, _, _, rfl, _⟩ := hT; rfl) | (obtain ⟨_, _, _, _, _, rfl, _⟩ := hT; rfl) | (obtain ⟨_, _, _, _, _, _, rfl, _⟩ := hT; rfl) | (obtain ⟨_, _, _, _, _, _, _, rfl, _⟩ := hT; rfl) | (obtain ⟨_, _, _, _, _, _, _, _, rfl, _⟩ := hT; rfl) | (obtain ⟨rfl, _⟩ := hT; rfl))) (fun cdv A0 outer s H vs Q E hr h => ?_)
  · have nd := sc_Steps_book_of.nd
    have hu := hu_of hr
    refine ⟨_, PSs.nox (pss_cons (ps_set (i := 3) nd rfl (by first | exact Or.inl rfl | exact Or.inr rfl) pe_dnewK)
      (pss_cons (ps_for PassesOwn.never rfl (FZ.pi_z2 (by rfl) T.n_zip (pa_cons (pe_fld (pv 0) rfl) (pa_cons (pv 1) pa_nil))) FN.pg_never FN.pss_never)
      (pss_one (ps_ret (pe_frz (pv 3)))))), ?_⟩
    refine run_M h fun Ps r Φ hT e => ?_
    obtain ⟨a, n, Q, P3, rfl, rfl, rfl⟩ := hT
    refine ok_seqX (F := rAt) (ρ := fun d => [(d, cDk []), (a, cOb A.c_Steps _ _)]) ex_newD fun d => ?_
    refine ok_seq1 (ok_forE (ei_z2E (ea_cons (ev_fO T.sp 1 (ev_var rfl) (List.mem_cons_of_mem _ List.mem_cons_self) rfl rfl) (ea_cons (ev_var rfl) ea_nil)) isq_T isq_L) ⟨rfl, rfl⟩) ?_
    exact ok_ret (ev_frD (pre := []) (post := [_]) (ev_var rfl)) ⟨rfl, rfl⟩
abbrev s_Steps_rings_of : Stmt := inClass (top 46) 6
abbrev N_Steps_rings_of : List Str := ["self", "masks", "found", "number", "mask", "back", "place"]
theorem sc_Steps_rings_of : FnScope N_Steps_rings_of ["self", "masks"] (defScope s_Steps_rings_of) := ⟨rfl, rfl, rfl, by decide +kernel, rfl, by decide +kernel, by decide +kernel⟩
theorem ok_Steps_rings_of (T : TxK K mg A) (T2 : TxE P K mg A) (D_turned : CalF P w K mg base CX0 1 "turned" ["masks"] (spP fun Ps P => Ps = [rLs K []] ∧ P = rLs K []))  {f : Addr} {fd : FuncData} (F : FunD K "rings_of" "Steps.rings_of" (defArgs s_Steps_rings_of) (defBody s_Steps_rings_of) (defScope s_Steps_rings_of) [] [] f fd) : FnOk P w K mg base CX0 2 f fd ["self", "masks"] (spM (S_rings A K)) := by
  refine F.ok sc_Steps_rings_of (fun vs H Q E h => len_M h (fun Ps r Φ hT => by first | (obtain ⟨_, rfl, _⟩ := hT; rfl) | (obtain ⟨_, _, rfl, _⟩ := hT; rfl) | (obtain ⟨_, _, _, rfl, _⟩ := hT; rfl) | (obtain ⟨_, _, _, _, rfl, _⟩ := hT; rfl) | (obtain ⟨_, _, _, _, _, rfl, _⟩ := hT; rfl) | (obtain ⟨_, _, _, _, _, _, rfl, _⟩ := hT; rfl) | (obtain ⟨_, _, _, _, _, _, _, rfl, _⟩ := hT; rfl) | (obtain ⟨_, _, _, _, _, _, _, _, rfl, _⟩ := hT; rfl) | (obtain ⟨rfl, _⟩ := hT; rfl))) (fun cdv A0 outer s H vs Q E hr h => ?_)
  · have nd := sc_Steps_rings_of.nd
    have hu := hu_of hr
    refine ⟨_, PSs.nox (pss_cons (ps_set (i := 2) nd rfl (by first | exact Or.inl rfl | exact Or.inr rfl) pe_dnewK)
      (pss_cons (ps_for PassesOwn.never rfl (FZ.pi_z3 (by rfl) T.n_zip (pa_cons (pe_fld (pv 0) rfl) (pa_cons (pv 1) (pa_cons (pe_cF D_turned pass0 hr rfl (pa_cons (pv 1) pa_nil)) pa_nil)))) FN.pg_never FN.pss_never)
      (pss_one (ps_ret (pe_frz (pv 2)))))), ?_⟩
    refine run_M h fun Ps r Φ hT e => ?_
    obtain ⟨a, n, Q, rfl, rfl, rfl⟩ := hT
    refine ok_seqX (F := rAt) (ρ := fun d => [(d, cDk []), (a, cOb A.c_Steps _ _)]) ex_newD fun d => ?_
    refine ok_seq1 (ok_forE (ei_z3E (ea_cons (ev_fO T.sp 1 (ev_var rfl) (List.mem_cons_of_mem _ List.mem_cons_self) rfl rfl) (ea_cons (ev_var rfl) (ea_cons (ev_call (ea_cons (ev_var rfl) ea_nil) ⟨rfl, rfl⟩) ea_nil))) isq_T isq_L isq_L) ⟨rfl, rfl⟩) ?_
    exact ok_ret (ev_frD (pre := []) (post := [_]) (ev_var rfl)) ⟨rfl, rfl⟩
abbrev s_under_pairs : Stmt := top 37
abbrev N_under_pairs : List Str := ["copies", "followed", "found", "name", "here"]
theorem sc_under_pairs : FnScope N_under_pairs ["copies"] (defScope s_under_pairs) := ⟨rfl, rfl, rfl, by decide +kernel, rfl, by decide +kernel, by decide +kernel⟩
theorem ok_under_pairs (T : TxK K mg A) (T2 : TxE P K mg A)   {f : Addr} {fd : FuncData} (F : FunD K "under_pairs" "under_pairs" (defArgs s_under_pairs) (defBody s_under_pairs) (defScope s_under_pairs) [] [] f fd) : FnOk P w K mg base CX0 1 f fd ["copies"] (spP fun Ps P => ∃ cs : Cs, Ps = [rTq (pairsP K (csP cs))] ∧ CsOk cs ∧ P = rTop) := by
  refine F.ok sc_under_pairs (fun vs H Q E h => len_P h (fun Ps P hT => by first | (obtain ⟨_, rfl, _⟩ := hT; rfl) | (obtain ⟨_, _, rfl, _⟩ := hT; rfl) | (obtain ⟨_, _, _, rfl, _⟩ := hT; rfl) | (obtain ⟨_, _, _, _, rfl, _⟩ := hT; rfl) | (obtain ⟨_, _, _, _, _, rfl, _⟩ := hT; rfl) | (obtain ⟨_, _, _, _, _, _, rfl, _⟩ := hT; rfl) | (obtain ⟨_, _, _, _, _, _, _, rfl, _⟩ := hT; rfl) | (obtain ⟨_, _, _, _, _, _, _, _, rfl, _⟩ := hT; rfl) | (obtain ⟨rfl, _⟩ := hT; rfl))) (fun cdv A0 outer s H vs Q E hr h => ?_)
  · have nd := sc_under_pairs.nd
    have hu := hu_of hr
    refine ⟨_, PSs.nox (pss_cons (ps_par (i := 1) (j := 2) (by rfl) nd rfl rfl (by decide) rfl rfl (pa_cons (pe_frz (pe_callTy (call_dictT rfl) (by rfl) T.n_dict (by decide +kernel) (pa_cons (pv 0) pa_nil))) (pa_cons pe_dnewT pa_nil)) (by rfl))
      (pss_cons (ps_for PassesOwn.never rfl (pi_keys (pv 1)) (pg_name (i := 3) nd rfl (by first | exact Or.inl rfl | exact Or.inr rfl)) (pss_cons (ps_set (i := 4) nd rfl (by first | exact Or.inl rfl | exact Or.inr rfl) (pv 3))
      (pss_one (ps_while PassesOwn.never (pt_cmp (pc_notN (pv 4)) rfl) (pss_cons (ps_dput hu (pv 2) (pe_tup (pa_cons (pv 3) (pa_cons (pv 4) pa_nil))) pe_bl rfl)
      (pss_one (ps_set (i := 4) nd rfl (by first | exact Or.inl rfl | exact Or.inr rfl) (pe_dget hu (pv 1) (pv 4) (fun _ _ => rfl)))))))))
      (pss_one (ps_ret (pv 2))))), ?_⟩
    refine run_P h fun Ps P hT e => ?_
    obtain ⟨cs, rfl, hc, rfl⟩ := hT
    refine ok_seqPar (F := rAt) (ρ := fun f => [(f, cDt [])]) (ev_frX (ex_dictT (ea_cons (ev_var rfl) ea_nil) (by rw [csP_keys]; exact nodup_inr hc.nd))) ex_newT fun f => ?_
    have cz : (csP cs).length ≤ 6 := by unfold csP; rw [List.length_map]; exact hc.z
    refine ok_seq (fun s' r' => ∃ kvs, Lo [none, some (rDk (csP cs)), some (rAt f), none, none] s' ∧ r' = [(f, cDt kvs)]) (ok_forM (R := fun kv : Key × Pr => rV (kV kv.1)) (xs := csP cs) (fun pre s' r' => ∃ kvs, Lo [none, some (rDk (csP cs)), some (rAt f), none, none] s' ∧ r' = [(f, cDt kvs)] ∧ kvs.length ≤ pre.length * 6) (ei_keys (ev_var rfl)) ⟨[], .skip (.keep (.keep (.skip (.skip .nil)))), rfl, Nat.zero_le _⟩ ?_ ?_) ?_
    · rintro _ pre x suf hm s' r' ⟨kvs, hl, rfl, hk⟩
      have hx : x ∈ csP cs := by rw [hm]; exact List.mem_append_right _ List.mem_cons_self
      have hp : pre.length < 6 := by have := congrArg List.length hm; rw [List.length_append, List.length_cons] at this; omega
      obtain ⟨c, hc1, rfl⟩ := List.mem_map.mp hx
      refine ⟨_, _, bg1, ?_⟩
      refine Ok.lo (s' := ([none, some (rDk (csP cs)), some (rAt f), some (rStr c.1), none] : Sls)) ?_ (Lo.set 3 hl)
      refine ok_seq1 (ok_asg (ev_var rfl) ⟨rfl, rfl⟩) ?_
      refine ok_while (fun k s' r' => ∃ (o : Option Str) (kvs : List (List Key × Pr)), s' = [none, some (rDk (csP cs)), some (rAt f), some (rStr c.1), some (rOpt rStr o)] ∧ r' = [(f, cDt kvs)] ∧ ends cs k o = true ∧ kvs.length + k ≤ pre.length * 6 + 6) cs.length ⟨some c.1, kvs, rfl, rfl, hc.free c hc1, by have := hc.z; omega⟩ ?_
      rintro k s' r' ⟨o, kvs, rfl, rfl, he, hz⟩
      refine ⟨_, _, et_test (ev_notNO (ev_var rfl) fun z => nn_str), fun hb => ?_, fun hb => ?_⟩
      · cases o with
        | none => cases hb
        | some z =>
          cases k with
          | zero => cases he
          | succ k =>
            have he' := he
            unfold ends at he'
            cases hlk : cs.lookup z with
            | none => rw [hlk] at he'; cases he'
            | some o2 =>
              rw [hlk] at he'
              refine ok_seq1 (ok_dputT (pre := []) (post := []) (ks := [.inr c.1, .inr z]) ev_bl (ev_var rfl) (ea_cons (ev_var rfl) (ea_cons (ev_var rfl) ea_nil)) (Nat.lt_of_le_of_lt (by omega : kvs.length ≤ 100) (by decide)) (by decide : 2 ≤ 1000) ⟨rfl, rfl⟩) ?_
              refine ok_asg (ev_dget (k := .inr z) (ev_var rfl) (ev_var rfl) (fun _ _ h => h) (by rw [csP_val, hlk]; rfl)) ⟨k, Nat.lt_succ_self _, o2, _, rfl, rfl, he', ?_⟩
              have := length_putP kvs [.inr c.1, .inr z] (rBl true)
              omega
      · exact ⟨kvs, .skip (.keep (.keep (.skip (.skip .nil)))), rfl, by rw [List.length_append]; simp; omega⟩
    · rintro s' r' ⟨kvs, a, b, _⟩
      exact ⟨kvs, a, b⟩
    rintro s' r' ⟨kvs, hl, rfl⟩
    exact Ok.lo (Ok.pick [0] 0 (ok_ret (Ev.imp (ev_var rfl) fun _ _ _ => trivial) rfl)) hl
abbrev s_Steps_init : Stmt := inClass (top 46) 0
abbrev N_Steps_init : List Str := ["self", "copies", "records", "many", "some", "number", "times", "other", "one", "marks", "weaks", "record", "meanings", "mark", "weak", "weak_masks", "word", "mask", "olders", "editions", "older"]
theorem sc_Steps_init : FnScope N_Steps_init ["self", "copies", "records"] (defScope s_Steps_init) := ⟨rfl, rfl, rfl, by decide +kernel, rfl, by decide +kernel, by decide +kernel⟩
theorem ok_Steps_init (T : TxK K mg A) (T2 : TxE P K mg A) (D_under_pairs : CalF P w K mg base CX0 1 "under_pairs" ["copies"] (spP fun Ps P => ∃ cs : Cs, Ps = [rTq (pairsP K (csP cs))] ∧ CsOk cs ∧ P = rTop)) (D_masks_by : CalF P w K mg base CX0 1 "masks_by" ["words"] (spP fun Ps P => Ps = [rLs K []] ∧ P = rLs K [])) (D_reached : CalF P w K mg base CX0 1 "reached" ["masks"] (spP fun Ps P => ∃ ms : List Int, Ps = [rLs K (ms.map rInt)] ∧ ms.length ≤ 1000 ∧ P = rLs K ((reachedF ms).map rInt))) (D_Steps_words_of : CalM P w K mg base CX0 A.c_Steps 1 "words_of" ["self", "words", "masks"] (spM fun Ps r Φ => ∃ a : Addr, Ps = [rAt a, rLs K [], rLs K []] ∧ r = [] ∧ Φ = fun P r' => P = rLs K [] ∧ r' = [])) (D_Steps_older_masks : CalM P w K mg base CX0 A.c_Steps 2 "older_masks" ["self", "meanings", "weak_masks"] (spM fun Ps r Φ => ∃ a : Addr, Ps = [rAt a, rLs K [], rLs K []] ∧ r = [] ∧ Φ = fun P r' => P = rLs K [] ∧ r' = [])) (D_Steps_book_of : CalM P w K mg base CX0 A.c_Steps 1 "book_of" ["self", "masks", "many"] (spM (S_book A K))) (D_Steps_rings_of : CalM P w K mg base CX0 A.c_Steps 2 "rings_of" ["self", "masks"] (spM (S_rings A K)))  {f : Addr} {fd : FuncData} (F : FunD K "__init__" "Steps.__init__" (defArgs s_Steps_init) (defBody s_Steps_init) (defScope s_Steps_init) [] [] f fd) : FnOk P w K mg base CX0 4 f fd ["self", "copies", "records"] (spM (S_Steps_init A K)) := by
  refine F.ok sc_Steps_init (fun vs H Q E h => len_M h (fun Ps r Φ hT => by obtain ⟨_, _, rfl, _⟩ := hT; rfl)) (fun cdv A0 outer s H vs Q E hr h => ?_)
  · have nd := sc_Steps_init.nd
    have hu := hu_of hr
    refine ⟨_, PSs.nox (pss_cons (ps_fld (pv 0) (pv 2) rfl)
      (pss_cons (ps_fld (pv 0) (pe_tupleOf (by rfl) T.n_tuple (pe_callB (id := "sorted") cr_sortedI (by rfl) T.n_sorted (by decide +kernel) (pa_cons (pe_callTy (call_listD rfl) (by rfl) T.n_list (by decide +kernel) (pa_cons (pv 2) pa_nil)) pa_nil))) rfl)
      (pss_cons (ps_asg (pe_tup (pa_cons (pe_callB (id := "len") call_len (by rfl) T.n_len (by decide +kernel) (pa_cons (pe_fld (pv 0) rfl) pa_nil)) (pa_cons (pe_lc (own := [("number", 5)]) (g := FN.xG) (tt := FN.xT) (te := FN.xE) rfl nd (pi_tup (pe_fld (pv 0) rfl)) (blkOk_by (N := N_Steps_init) (sc := defScope s_Steps_init) (own := [("number", 5)]) (by decide +kernel)) (fun _ _ _ _ _ => FN.pg_never) (fun _ _ _ _ _ => FN.pts_never) (fun _ _ _ _ _ => FN.pe_never)) pa_nil))) (pg_tup rfl (pgs_cons (pg_name (i := 3) nd rfl (by first | exact Or.inl rfl | exact Or.inr rfl)) (pgs_cons (pg_name (i := 4) nd rfl (by first | exact Or.inl rfl | exact Or.inr rfl)) pgs_nil))))
      (pss_cons (ps_fld (pv 0) (pe_cF D_under_pairs pass0 hr rfl (pa_cons (pv 1) pa_nil)) rfl)
      (pss_cons (ps_setLc (i := 6) (own := [("one", 8)]) (g := FN.xG) (tt := FN.xT) (te := FN.xE) rfl nd rfl rfl (sw_true rfl rfl rfl (by decide +kernel)) (pi_list (pv 4)) (blkOk_by (N := N_Steps_init) (sc := defScope s_Steps_init) (own := [("one", 8)]) (by decide +kernel)) (fun _ _ _ _ _ => FN.pg_never) (fun _ _ _ _ _ => FN.pts_never) (fun _ _ _ _ _ => FN.pe_never))
      (pss_cons (ps_par (i := 9) (j := 10) (by rfl) nd rfl rfl (by decide) rfl rfl (pa_cons (pe_cF D_masks_by pass0 hr rfl (pa_cons (pe_lc (own := [("record", 11)]) (g := FN.xG) (tt := FN.xT) (te := FN.xE) rfl nd (pi_list (pv 4)) (blkOk_by (N := N_Steps_init) (sc := defScope s_Steps_init) (own := [("record", 11)]) (by decide +kernel)) (fun _ _ _ _ _ => FN.pg_never) (fun _ _ _ _ _ => FN.pts_never) (fun _ _ _ _ _ => FN.pe_never)) pa_nil)) (pa_cons (pe_cF D_masks_by pass0 hr rfl (pa_cons (pe_lc (own := [("record", 11)]) (g := FN.xG) (tt := FN.xT) (te := FN.xE) rfl nd (pi_list (pv 4)) (blkOk_by (N := N_Steps_init) (sc := defScope s_Steps_init) (own := [("record", 11)]) (by decide +kernel)) (fun _ _ _ _ _ => FN.pg_never) (fun _ _ _ _ _ => FN.pts_never) (fun _ _ _ _ _ => FN.pe_never)) pa_nil)) pa_nil)) (by rfl))
      (pss_cons (ps_set (i := 12) nd rfl (by first | exact Or.inl rfl | exact Or.inr rfl) (pe_cF D_reached pass0 hr rfl (pa_cons (pe_lc (own := [("one", 8), ("mark", 13), ("weak", 14)]) (g := FN.xG) (tt := FN.xT) (te := FN.xE) rfl nd (FZ.pi_z3 (by rfl) T.n_zip (pa_cons (pv 6) (pa_cons (pv 9) (pa_cons (pv 10) pa_nil)))) (blkOk_by (N := N_Steps_init) (sc := defScope s_Steps_init) (own := [("one", 8), ("mark", 13), ("weak", 14)]) (by decide +kernel)) (fun _ _ _ _ _ => FN.pg_never) (fun _ _ _ _ _ => FN.pts_never) (fun _ _ _ _ _ => FN.pe_never)) pa_nil)))
      (pss_cons (ps_setLc (i := 15) (own := [("word", 16), ("mask", 17)]) (g := FN.xG) (tt := FN.xT) (te := FN.xE) rfl nd rfl rfl (sw_true rfl rfl rfl (by decide +kernel)) (pi_list (pe_cM D_Steps_words_of pass0 hr (pv 0) (pa_cons (pe_lc (own := [("record", 11)]) (g := FN.xG) (tt := FN.xT) (te := FN.xE) rfl nd (pi_list (pv 4)) (blkOk_by (N := N_Steps_init) (sc := defScope s_Steps_init) (own := [("record", 11)]) (by decide +kernel)) (fun _ _ _ _ _ => FN.pg_never) (fun _ _ _ _ _ => FN.pts_never) (fun _ _ _ _ _ => FN.pe_never)) (pa_cons (pv 10) pa_nil)))) (blkOk_by (N := N_Steps_init) (sc := defScope s_Steps_init) (own := [("word", 16), ("mask", 17)]) (by decide +kernel)) (fun _ _ _ _ _ => FN.pg_never) (fun _ _ _ _ _ => FN.pts_never) (fun _ _ _ _ _ => FN.pe_never))
      (pss_cons (ps_set (i := 18) nd rfl (by first | exact Or.inl rfl | exact Or.inr rfl) (pe_cM D_Steps_older_masks pass0 hr (pv 0) (pa_cons (pv 12) (pa_cons (pv 15) pa_nil))))
      (pss_cons (ps_set (i := 19) nd rfl (by first | exact Or.inl rfl | exact Or.inr rfl) (pe_cF D_reached pass0 hr rfl (pa_cons (pe_lc (own := [("one", 8), ("mark", 13), ("older", 20)]) (g := FN.xG) (tt := FN.xT) (te := FN.xE) rfl nd (FZ.pi_z3 (by rfl) T.n_zip (pa_cons (pv 6) (pa_cons (pv 9) (pa_cons (pv 18) pa_nil)))) (blkOk_by (N := N_Steps_init) (sc := defScope s_Steps_init) (own := [("one", 8), ("mark", 13), ("older", 20)]) (by decide +kernel)) (fun _ _ _ _ _ => FN.pg_never) (fun _ _ _ _ _ => FN.pts_never) (fun _ _ _ _ _ => FN.pe_never)) pa_nil)))
      (pss_cons (ps_fld (pv 0) (pe_cM D_Steps_book_of pass0 hr (pv 0) (pa_cons (pv 12) (pa_cons (pv 3) pa_nil))) rfl)
      (pss_cons (ps_fld (pv 0) (pe_cM D_Steps_book_of pass0 hr (pv 0) (pa_cons (pv 19) (pa_cons (pv 3) pa_nil))) rfl)
      (pss_cons (ps_fld (pv 0) (pe_cM D_Steps_book_of pass0 hr (pv 0) (pa_cons (pv 18) (pa_cons (pv 3) pa_nil))) rfl)
      (pss_cons (ps_fld (pv 0) (pe_cM D_Steps_rings_of pass0 hr (pv 0) (pa_cons (pv 19) pa_nil)) rfl)
      (pss_cons (ps_fld (pv 0) (pe_cM D_Steps_rings_of pass0 hr (pv 0) (pa_cons (pv 12) pa_nil)) rfl)
      (pss_cons (ps_fld (pv 0) (pe_tupleOf (by rfl) T.n_tuple (pe_callB (id := "sorted") (cr_sortedSS rfl) (by rfl) T.n_sorted (by decide +kernel) (pa_cons (pe_callTy (cr_setS rfl) (by rfl) T.n_set (by decide +kernel) (pa_cons (pe_callTy (call_listVw rfl) (by rfl) T.n_list (by decide +kernel) (pa_cons (FT.pe_vals (pe_fld (pv 0) rfl)) pa_nil)) pa_nil)) pa_nil))) rfl)
      (pss_one (ps_fld (pv 0) (pe_tupleOf (by rfl) T.n_tuple (pe_callB (id := "sorted") (cr_sortedSS rfl) (by rfl) T.n_sorted (by decide +kernel) (pa_cons (pe_callTy (cr_setS rfl) (by rfl) T.n_set (by decide +kernel) (pa_cons (pe_callTy (call_listVw rfl) (by rfl) T.n_list (by decide +kernel) (pa_cons (FT.pe_vals (pe_fld (pv 0) rfl)) pa_nil)) pa_nil)) pa_nil))) rfl)))))))))))))))))), ?_⟩
    refine run_M h fun Ps r Φ hT e => ?_
    obtain ⟨a, cs, rfl, hc, rfl, rfl⟩ := hT
    have mi : ∀ {C}, (a, C) ∈ ([(a, C)] : Rs) := List.mem_cons_self
    refine ok_seq1 (ok_fN T.sp [] (ev_var rfl) (ev_var rfl) ⟨rfl, rfl⟩) ?_
    refine ok_seq1 (ok_fN T.sp [] (ev_tupL (ev_sorted0 (ea_cons (ev_list0 (ea_cons (ev_var rfl) ea_nil)) ea_nil))) (ev_var rfl) ⟨rfl, rfl⟩) ?_
    refine ok_seq1 (ok_asgG (ev_tup K (ea_cons (ev_lenT (Ps := []) (ea_cons (ev_fO T.sp 1 (ev_var rfl) mi rfl rfl) ea_nil)) (ea_cons (ev_lcE K (ei_tup (Ps := []) (ev_fO T.sp 1 (ev_var rfl) mi rfl rfl))) ea_nil))) bg2 ⟨rfl, rfl⟩) ?_
    refine ok_seq1 (ok_fN T.sp [] (ev_call (ea_cons (ev_var rfl) ea_nil) ⟨cs, rfl, hc, rfl⟩) (ev_var rfl) ⟨rfl, rfl⟩) ?_
    refine ok_seq1 (ok_asg (ev_lcE K (ei_list (ev_var rfl))) ⟨rfl, rfl⟩) ?_
    refine ok_seq1 (ok_par (ea_cons (ev_call (ea_cons (ev_lcE K (ei_list (ev_var rfl))) ea_nil) ⟨rfl, rfl⟩) (ea_cons (ev_call (ea_cons (ev_lcE K (ei_list (ev_var rfl))) ea_nil) ⟨rfl, rfl⟩) ea_nil)) ⟨rfl, rfl⟩) ?_
    have re : ∀ Ps P, (Ps = [rLs K []] ∧ P = rLs K []) → ∃ ms : List Int, Ps = [rLs K (ms.map rInt)] ∧ ms.length ≤ 1000 ∧ P = rLs K ((reachedF ms).map rInt) := fun Ps P h => ⟨[], h.1, Nat.zero_le _, h.2⟩
    refine ok_seq1 (ok_asg (ev_call (ea_cons (ev_lcE K (ei_z3E (ea_cons (ev_var rfl) (ea_cons (ev_var rfl) (ea_cons (ev_var rfl) ea_nil))) isq_L isq_L isq_L)) ea_nil) (re _ _ ⟨rfl, rfl⟩)) ⟨rfl, rfl⟩) ?_
    refine ok_seq1 (ok_asg (ev_lcE K (ei_list (Ps := []) (ev_methO [] [(a, _)] (ev_var rfl) mi (ea_cons (ev_lcE K (ei_list (ev_var rfl))) (ea_cons (ev_var rfl) ea_nil)) ⟨a, rfl, rfl, rfl⟩ fun _ _ h => h))) ⟨rfl, rfl⟩) ?_
    refine ok_seq1 (ok_asg (ev_methO [] [(a, _)] (ev_var rfl) mi (ea_cons (ev_var rfl) (ea_cons (ev_var rfl) ea_nil)) ⟨a, rfl, rfl, rfl⟩ fun _ _ h => h) ⟨rfl, rfl⟩) ?_
    refine ok_seq1 (ok_asg (ev_call (ea_cons (ev_lcE K (ei_z3E (ea_cons (ev_var rfl) (ea_cons (ev_var rfl) (ea_cons (ev_var rfl) ea_nil))) isq_L isq_L isq_L)) ea_nil) (re _ _ ⟨rfl, rfl⟩)) ⟨rfl, rfl⟩) ?_
    refine ok_seq1 (ok_fN T.sp [] (ev_methO [(a, _)] [] (ev_var rfl) mi (ea_cons (ev_var rfl) (ea_cons (ev_var rfl) ea_nil)) ⟨a, _, _, _, rfl, rfl, rfl⟩ fun _ _ h => h) (ev_var rfl) ⟨rfl, rfl⟩) ?_
    refine ok_seq1 (ok_fN T.sp [] (ev_methO [(a, _)] [] (ev_var rfl) mi (ea_cons (ev_var rfl) (ea_cons (ev_var rfl) ea_nil)) ⟨a, _, _, _, rfl, rfl, rfl⟩ fun _ _ h => h) (ev_var rfl) ⟨rfl, rfl⟩) ?_
    refine ok_seq1 (ok_fN T.sp [] (ev_methO [(a, _)] [] (ev_var rfl) mi (ea_cons (ev_var rfl) (ea_cons (ev_var rfl) ea_nil)) ⟨a, _, _, _, rfl, rfl, rfl⟩ fun _ _ h => h) (ev_var rfl) ⟨rfl, rfl⟩) ?_
    refine ok_seq1 (ok_fN T.sp [] (ev_methO [(a, _)] [] (ev_var rfl) mi (ea_cons (ev_var rfl) ea_nil) ⟨a, _, _, rfl, rfl, rfl⟩ fun _ _ h => h) (ev_var rfl) ⟨rfl, rfl⟩) ?_
    refine ok_seq1 (ok_fN T.sp [] (ev_methO [(a, _)] [] (ev_var rfl) mi (ea_cons (ev_var rfl) ea_nil) ⟨a, _, _, rfl, rfl, rfl⟩ fun _ _ h => h) (ev_var rfl) ⟨rfl, rfl⟩) ?_
    refine ok_seq1 (ok_fN T.sp [] (ev_tupL (ev_sortedSet0 (ea_cons (ev_listV0 (ev_fO T.sp 6 (ev_var rfl) mi rfl rfl)) ea_nil))) (ev_var rfl) ⟨rfl, rfl⟩) ?_
    exact ok_fN T.sp [] (ev_tupL (ev_sortedSet0 (ea_cons (ev_listV0 (ev_fO T.sp 7 (ev_var rfl) mi rfl rfl)) ea_nil))) (ev_var rfl) ⟨rfl, rfl⟩
abbrev s_Contents_told_by_groups : Stmt := inClass (top 16) 1
abbrev N_Contents_told_by_groups : List Str := ["self", "pairs", "told", "number", "least", "group"]
theorem sc_Contents_told_by_groups : FnScope N_Contents_told_by_groups ["self", "pairs"] (defScope s_Contents_told_by_groups) := ⟨rfl, rfl, rfl, by decide +kernel, rfl, by decide +kernel, by decide +kernel⟩
theorem ok_Contents_told_by_groups (T : TxK K mg A) (T2 : TxE P K mg A)   {f : Addr} {fd : FuncData} (F : FunD K "told_by_groups" "Contents.told_by_groups" (defArgs s_Contents_told_by_groups) (defBody s_Contents_told_by_groups) (defScope s_Contents_told_by_groups) [] [] f fd) : FnOk P w K mg base CX0 1 f fd ["self", "pairs"] (spM (S_told A K)) := by
  refine F.ok sc_Contents_told_by_groups (fun vs H Q E h => len_M h (fun Ps r Φ hT => by first | (obtain ⟨_, rfl, _⟩ := hT; rfl) | (obtain ⟨_, _, rfl, _⟩ := hT; rfl) | (obtain ⟨_, _, _, rfl, _⟩ := hT; rfl) | (obtain ⟨_, _, _, _, rfl, _⟩ := hT; rfl) | (obtain ⟨_, _, _, _, _, rfl, _⟩ := hT; rfl) | (obtain ⟨_, _, _, _, _, _, rfl, _⟩ := hT; rfl) | (obtain ⟨_, _, _, _, _, _, _, rfl, _⟩ := hT; rfl) | (obtain ⟨_, _, _, _, _, _, _, _, rfl, _⟩ := hT; rfl) | (obtain ⟨rfl, _⟩ := hT; rfl))) (fun cdv A0 outer s H vs Q E hr h => ?_)
  · have nd := sc_Contents_told_by_groups.nd
    have hu := hu_of hr
    refine ⟨_, PSs.nox (pss_cons (ps_set (i := 2) nd rfl (by first | exact Or.inl rfl | exact Or.inr rfl) (pe_callTy (call_dictP rfl) (by rfl) T.n_dict (by decide +kernel) (pa_cons (pv 1) pa_nil)))
      (pss_one (ps_ret (pe_frz (FN.pe_dcE (own := [("least", 4), ("group", 5)]) rfl nd (pi_items (pe_fld (pv 0) rfl)) (blkOk_by (N := N_Contents_told_by_groups) (sc := defScope s_Contents_told_by_groups) (own := [("least", 4), ("group", 5)]) (by decide +kernel))))))), ?_⟩
    refine run_M h fun Ps r Φ hT e => ?_
    obtain ⟨a, ns, Qs, rfl, rfl, hq, rfl⟩ := hT
    refine ok_seqX (F := rAt) (ρ := fun d => [(d, cDk []), (a, cOb A.c_Contents _ _)]) (ex_dict0 (ea_cons (ev_var rfl) ea_nil)) fun d => ?_
    exact Ok.pick [1, 0] 1 (ok_ret (ev_dcE (ei_items0 K (ev_fO T.co 3 (ev_var rfl) List.mem_cons_self rfl hq))) ⟨rfl, rfl⟩)
abbrev s_Contents_init : Stmt := inClass (top 16) 0
abbrev N_Contents_init : List Str := ["self", "records", "groups", "piece", "group", "number", "record", "least"]
theorem sc_Contents_init : FnScope N_Contents_init ["self", "records", "groups", "piece"] (defScope s_Contents_init) := ⟨rfl, rfl, rfl, by decide +kernel, rfl, by decide +kernel, by decide +kernel⟩
theorem ok_Contents_init (T : TxK K mg A) (T2 : TxE P K mg A) (D_Contents_told_by_groups : CalM P w K mg base CX0 A.c_Contents 1 "told_by_groups" ["self", "pairs"] (spM (S_told A K)))  {f : Addr} {fd : FuncData} (F : FunD K "__init__" "Contents.__init__" (defArgs s_Contents_init) (defBody s_Contents_init) (defScope s_Contents_init) [] [] f fd) : FnOk P w K mg base CX0 2 f fd ["self", "records", "groups", "piece"] (spM (S_Cont_init A K)) := by
  refine F.ok sc_Contents_init (fun vs H Q E h => len_M h (fun Ps r Φ hT => by first | (obtain ⟨_, rfl, _⟩ := hT; rfl) | (obtain ⟨_, _, rfl, _⟩ := hT; rfl) | (obtain ⟨_, _, _, rfl, _⟩ := hT; rfl) | (obtain ⟨_, _, _, _, rfl, _⟩ := hT; rfl) | (obtain ⟨_, _, _, _, _, rfl, _⟩ := hT; rfl) | (obtain ⟨_, _, _, _, _, _, rfl, _⟩ := hT; rfl) | (obtain ⟨_, _, _, _, _, _, _, rfl, _⟩ := hT; rfl) | (obtain ⟨_, _, _, _, _, _, _, _, rfl, _⟩ := hT; rfl) | (obtain ⟨rfl, _⟩ := hT; rfl))) (fun cdv A0 outer s H vs Q E hr h => ?_)
  · have nd := sc_Contents_init.nd
    have hu := hu_of hr
    refine ⟨_, PSs.nox (pss_cons (ps_fld (pv 0) (pv 1) rfl)
      (pss_cons (ps_fld (pv 0) (pv 3) rfl)
      (pss_cons (ps_fld (pv 0) (pe_frz (FN.pe_dcE (own := [("group", 4), ("number", 5)]) rfl nd (pi_tup (pv 2)) (blkOk_by (N := N_Contents_init) (sc := defScope s_Contents_init) (own := [("group", 4), ("number", 5)]) (by decide +kernel)))) rfl)
      (pss_cons (ps_fld (pv 0) (pe_frz (FN.pe_dcE (own := [("group", 4)]) rfl nd (pi_tup (pv 2)) (blkOk_by (N := N_Contents_init) (sc := defScope s_Contents_init) (own := [("group", 4)]) (by decide +kernel)))) rfl)
      (pss_cons (ps_fld (pv 0) (pe_cM D_Contents_told_by_groups pass0 hr (pv 0) (pa_cons (pe_lc (own := [("number", 5), ("record", 6)]) (g := FN.xG) (tt := FN.xT) (te := FN.xE) rfl nd (pi_items (pv 1)) (blkOk_by (N := N_Contents_init) (sc := defScope s_Contents_init) (own := [("number", 5), ("record", 6)]) (by decide +kernel)) (fun _ _ _ _ _ => FN.pg_never) (fun _ _ _ _ _ => FN.pts_never) (fun _ _ _ _ _ => FN.pe_never)) pa_nil)) rfl)
      (pss_cons (ps_fld (pv 0) (pe_cM D_Contents_told_by_groups pass0 hr (pv 0) (pa_cons (pe_lc (own := [("number", 5), ("record", 6)]) (g := FN.xG) (tt := FN.xT) (te := FN.xE) rfl nd (pi_items (pv 1)) (blkOk_by (N := N_Contents_init) (sc := defScope s_Contents_init) (own := [("number", 5), ("record", 6)]) (by decide +kernel)) (fun _ _ _ _ _ => FN.pg_never) (fun _ _ _ _ _ => FN.pts_never) (fun _ _ _ _ _ => FN.pe_never)) pa_nil)) rfl)
      (pss_cons (ps_fld (pv 0) (pe_cM D_Contents_told_by_groups pass0 hr (pv 0) (pa_cons (pe_lc (own := [("number", 5), ("record", 6)]) (g := FN.xG) (tt := FN.xT) (te := FN.xE) rfl nd (pi_items (pv 1)) (blkOk_by (N := N_Contents_init) (sc := defScope s_Contents_init) (own := [("number", 5), ("record", 6)]) (by decide +kernel)) (fun _ _ _ _ _ => FN.pg_never) (fun _ _ _ _ _ => FN.pts_never) (fun _ _ _ _ _ => FN.pe_never)) pa_nil)) rfl)
      (pss_cons (ps_fld (pv 0) (pe_cM D_Contents_told_by_groups pass0 hr (pv 0) (pa_cons (pe_lc (own := [("number", 5), ("record", 6)]) (g := FN.xG) (tt := FN.xT) (te := FN.xE) rfl nd (pi_items (pv 1)) (blkOk_by (N := N_Contents_init) (sc := defScope s_Contents_init) (own := [("number", 5), ("record", 6)]) (by decide +kernel)) (fun _ _ _ _ _ => FN.pg_never) (fun _ _ _ _ _ => FN.pts_never) (fun _ _ _ _ _ => FN.pe_never)) pa_nil)) rfl)
      (pss_cons (ps_fld (pv 0) (pe_frz (FN.pe_dcE (own := [("least", 7)]) rfl nd (pi_keys (pe_fld (pv 0) rfl)) (blkOk_by (N := N_Contents_init) (sc := defScope s_Contents_init) (own := [("least", 7)]) (by decide +kernel)))) rfl)
      (pss_cons (ps_fld (pv 0) pe_bl rfl)
      (pss_cons (ps_fld (pv 0) (pe_frz (FN.pe_dcE (own := [("least", 7)]) rfl nd (pi_keys (pe_fld (pv 0) rfl)) (blkOk_by (N := N_Contents_init) (sc := defScope s_Contents_init) (own := [("least", 7)]) (by decide +kernel)))) rfl)
      (pss_cons (ps_fld (pv 0) (pe_frz pe_dnewK) rfl)
      (pss_cons (ps_fld (pv 0) (pe_frz pe_dnewK) rfl)
      (pss_cons (ps_for PassesOwn.never rfl (pi_keys (pe_fld (pv 0) rfl)) FN.pg_never FN.pss_never)
      (pss_cons (ps_fld (pv 0) (pe_frz (FN.pe_dcE (own := [("least", 7)]) rfl nd (pi_keys (pe_fld (pv 0) rfl)) (blkOk_by (N := N_Contents_init) (sc := defScope s_Contents_init) (own := [("least", 7)]) (by decide +kernel)))) rfl)
      (pss_one (ps_if (pt_val (pe_callB (id := "any") (cr_any rfl) (by rfl) T.n_any (by decide +kernel) (pa_cons (pe_lc (own := [("least", 7)]) (g := FN.xG) (tt := FN.xT) (te := FN.xE) rfl nd (pi_keys (pe_fld (pv 0) rfl)) (blkOk_by (N := N_Contents_init) (sc := defScope s_Contents_init) (own := [("least", 7)]) (by decide +kernel)) (fun _ _ _ _ _ => FN.pg_never) (fun _ _ _ _ _ => FN.pts_never) (fun _ _ _ _ _ => FN.pe_never)) pa_nil))) (pss_one (ps_fld (pv 0) pe_bl rfl)) pss_nil))))))))))))))))), ?_⟩
    refine run_M h fun Ps r Φ hT e => ?_
    obtain ⟨a, Pp, rfl, rfl, rfl⟩ := hT
    have mi : ∀ {C}, (a, C) ∈ ([(a, C)] : Rs) := List.mem_cons_self
    refine ok_seq1 (ok_fN T.co [] (ev_var rfl) (ev_var rfl) ⟨rfl, rfl⟩) ?_
    refine ok_seq1 (ok_fN T.co [] (ev_var rfl) (ev_var rfl) ⟨rfl, rfl⟩) ?_
    refine ok_seq1 (ok_fN T.co [] (ev_dcE (ei_tup (ev_var rfl))) (ev_var rfl) ⟨rfl, rfl⟩) ?_
    refine ok_seq1 (ok_fN T.co [] (ev_dcE (ei_tup (ev_var rfl))) (ev_var rfl) ⟨rfl, rfl⟩) ?_
    refine ok_seq1 (ok_fN T.co [] (ev_methO [(a, _)] [] (ev_var rfl) mi (ea_cons (ev_lcE K (ei_items0 K (ev_var rfl))) ea_nil) ⟨a, _, _, rfl, rfl, rfl, rfl⟩ fun _ _ h => h) (ev_var rfl) ⟨rfl, rfl⟩) ?_
    refine ok_seq1 (ok_fN T.co [] (ev_methO [(a, _)] [] (ev_var rfl) mi (ea_cons (ev_lcE K (ei_items0 K (ev_var rfl))) ea_nil) ⟨a, _, _, rfl, rfl, rfl, rfl⟩ fun _ _ h => h) (ev_var rfl) ⟨rfl, rfl⟩) ?_
    refine ok_seq1 (ok_fN T.co [] (ev_methO [(a, _)] [] (ev_var rfl) mi (ea_cons (ev_lcE K (ei_items0 K (ev_var rfl))) ea_nil) ⟨a, _, _, rfl, rfl, rfl, rfl⟩ fun _ _ h => h) (ev_var rfl) ⟨rfl, rfl⟩) ?_
    refine ok_seq1 (ok_fN T.co [] (ev_methO [(a, _)] [] (ev_var rfl) mi (ea_cons (ev_lcE K (ei_items0 K (ev_var rfl))) ea_nil) ⟨a, _, _, rfl, rfl, rfl, rfl⟩ fun _ _ h => h) (ev_var rfl) ⟨rfl, rfl⟩) ?_
    refine ok_seq1 (ok_fN T.co [] (ev_dcE (ei_keys0 (ev_fO T.co 3 (ev_var rfl) mi rfl rfl))) (ev_var rfl) ⟨rfl, rfl⟩) ?_
    refine ok_seq1 (ok_fN T.co [] ev_bl (ev_var rfl) ⟨rfl, rfl⟩) ?_
    refine ok_seq1 (ok_fN T.co [] (ev_dcE (ei_keys0 (ev_fO T.co 3 (ev_var rfl) mi rfl rfl))) (ev_var rfl) ⟨rfl, rfl⟩) ?_
    refine ok_seq1 (ok_fN T.co [] (ev_frX ex_newD) (ev_var rfl) ⟨rfl, rfl⟩) ?_
    refine ok_seq1 (ok_fN T.co [] (ev_frX ex_newD) (ev_var rfl) ⟨rfl, rfl⟩) ?_
    refine ok_seq1 (ok_forE (ei_keys0 (ev_fO T.co 3 (ev_var rfl) mi rfl rfl)) ⟨rfl, rfl⟩) ?_
    refine ok_seq1 (ok_fN T.co [] (ev_dcE (ei_keys0 (ev_fO T.co 3 (ev_var rfl) mi rfl rfl))) (ev_var rfl) ⟨rfl, rfl⟩) ?_
    exact ok_if (et_test (ev_any0 (ea_cons (ev_lcE K (ei_keys0 (ev_fO T.co 3 (ev_var rfl) mi rfl rfl))) ea_nil))) (fun h => by cases h) fun _ => ok_next ⟨rfl, rfl⟩
abbrev s_Knowledge_is_sound : Stmt := inClass (top 51) 2
abbrev N_Knowledge_is_sound : List Str := ["self", "ring"]
theorem sc_Knowledge_is_sound : FnScope N_Knowledge_is_sound ["self"] (defScope s_Knowledge_is_sound) := ⟨rfl, rfl, rfl, by decide +kernel, rfl, by decide +kernel, by decide +kernel⟩
theorem ok_Knowledge_is_sound (T : TxK K mg A) (T2 : TxE P K mg A)   {f : Addr} {fd : FuncData} (F : FunD K "is_sound" "Knowledge.is_sound" (defArgs s_Knowledge_is_sound) (defBody s_Knowledge_is_sound) (defScope s_Knowledge_is_sound) [] [] f fd) : FnOk P w K mg base CX0 1 f fd ["self"] (spM (S_sound A K)) := by
  refine F.ok sc_Knowledge_is_sound (fun vs H Q E h => len_M h (fun Ps r Φ hT => by first | (obtain ⟨_, rfl, _⟩ := hT; rfl) | (obtain ⟨_, _, rfl, _⟩ := hT; rfl) | (obtain ⟨_, _, _, rfl, _⟩ := hT; rfl) | (obtain ⟨_, _, _, _, rfl, _⟩ := hT; rfl) | (obtain ⟨_, _, _, _, _, rfl, _⟩ := hT; rfl) | (obtain ⟨_, _, _, _, _, _, rfl, _⟩ := hT; rfl) | (obtain ⟨_, _, _, _, _, _, _, rfl, _⟩ := hT; rfl) | (obtain ⟨_, _, _, _, _, _, _, _, rfl, _⟩ := hT; rfl) | (obtain ⟨rfl, _⟩ := hT; rfl))) (fun cdv A0 outer s H vs Q E hr h => ?_)
  · have nd := sc_Knowledge_is_sound.nd
    have hu := hu_of hr
    refine ⟨_, PSs.nox (pss_cons (ps_if (pt_val (pe_fld (pe_fld (pv 0) rfl) rfl)) (pss_one (ps_ret pe_bl)) pss_nil)
      (pss_one (ps_ret (pe_callB (id := "all") (cr_all rfl) (by rfl) T.n_all (by decide +kernel) (pa_cons (pe_lc (own := [("ring", 1)]) (g := FN.xG) (tt := FN.xT) (te := FN.xE) rfl nd (pi_tup (pe_fld (pe_fld (pv 0) rfl) rfl)) (blkOk_by (N := N_Knowledge_is_sound) (sc := defScope s_Knowledge_is_sound) (own := [("ring", 1)]) (by decide +kernel)) (fun _ _ _ _ _ => FN.pg_never) (fun _ _ _ _ _ => FN.pts_never) (fun _ _ _ _ _ => FN.pe_never)) pa_nil))))), ?_⟩
    refine run_M h fun Ps r Φ hT e => ?_
    obtain ⟨a, Pp, rfl, rfl, rfl⟩ := hT
    have mi : ∀ {C}, (a, C) ∈ ([(a, C)] : Rs) := List.mem_cons_self
    refine ok_seq1 (ok_if (et_test (ev_f T.co 9 (ev_fO T.kn 2 (ev_var rfl) mi rfl rfl))) (fun h => by cases h) fun _ => ok_next ⟨rfl, rfl⟩) ?_
    exact ok_ret (ev_all0 (ea_cons (ev_lcE K (ei_tup (ev_f T.sp 9 (ev_fO T.kn 1 (ev_var rfl) mi rfl rfl)))) ea_nil)) ⟨rfl, rfl⟩
abbrev s_Knowledge_init : Stmt := inClass (top 51) 0
abbrev N_Knowledge_init : List Str := ["self", "copies", "piece", "records"]
theorem sc_Knowledge_init : FnScope N_Knowledge_init ["self", "copies", "piece", "records"] (defScope s_Knowledge_init) := ⟨rfl, rfl, rfl, by decide +kernel, rfl, by decide +kernel, by decide +kernel⟩
theorem ok_Knowledge_init (T : TxK K mg A) (T2 : TxE P K mg A) (D_Steps : CalI P w K mg base CX0 A.c_Steps 4 "Steps" ["self", "copies", "records"] (spM (S_Steps_init A K))) (D_Contents : CalI P w K mg base CX0 A.c_Contents 2 "Contents" ["self", "records", "groups", "piece"] (spM (S_Cont_init A K))) (D_Knowledge_is_sound : CalM P w K mg base CX0 A.c_Knowledge 1 "is_sound" ["self"] (spM (S_sound A K)))  {f : Addr} {fd : FuncData} (F : FunD K "__init__" "Knowledge.__init__" (defArgs s_Knowledge_init) (defBody s_Knowledge_init) (defScope s_Knowledge_init) [] [] f fd) : FnOk P w K mg base CX0 6 f fd ["self", "copies", "piece", "records"] (spM (S_Know_init A K)) := by
  refine F.ok sc_Knowledge_init (fun vs H Q E h => len_M h (fun Ps r Φ hT => by first | (obtain ⟨_, rfl, _⟩ := hT; rfl) | (obtain ⟨_, _, rfl, _⟩ := hT; rfl) | (obtain ⟨_, _, _, rfl, _⟩ := hT; rfl) | (obtain ⟨_, _, _, _, rfl, _⟩ := hT; rfl) | (obtain ⟨_, _, _, _, _, rfl, _⟩ := hT; rfl) | (obtain ⟨_, _, _, _, _, _, rfl, _⟩ := hT; rfl) | (obtain ⟨_, _, _, _, _, _, _, rfl, _⟩ := hT; rfl) | (obtain ⟨_, _, _, _, _, _, _, _, rfl, _⟩ := hT; rfl) | (obtain ⟨rfl, _⟩ := hT; rfl))) (fun cdv A0 outer s H vs Q E hr h => ?_)
  · have nd := sc_Knowledge_init.nd
    have hu := hu_of hr
    refine ⟨_, PSs.nox (pss_cons (ps_fld (pv 0) (pv 3) rfl)
      (pss_cons (ps_fld (pv 0) (pe_cI D_Steps pass0 hr rfl (pa_cons (pv 1) (pa_cons (pv 3) pa_nil))) rfl)
      (pss_cons (ps_fld (pv 0) (pe_cI D_Contents pass0 hr rfl (pa_cons (pv 3) (pa_cons (pe_fld (pe_fld (pv 0) rfl) rfl) (pa_cons (pv 2) pa_nil)))) rfl)
      (pss_one (ps_fld (pv 0) (pe_cM0 D_Knowledge_is_sound pass0 hr (pv 0)) rfl))))), ?_⟩
    refine run_M h fun Ps r Φ hT e => ?_
    obtain ⟨a, cs, Pp, rfl, hc, rfl, rfl⟩ := hT
    have mi : ∀ {C}, (a, C) ∈ ([(a, C)] : Rs) := List.mem_cons_self
    refine ok_seq1 (ok_fN T.kn [] (ev_var rfl) (ev_var rfl) ⟨rfl, rfl⟩) ?_
    refine ok_seq1 (ok_fN T.kn [] (ev_makeF [] [_] (ea_cons (ev_var rfl) (ea_cons (ev_var rfl) ea_nil)) (fun x => ⟨x, cs, rfl, hc, rfl, rfl⟩) fun _ _ _ h => h) (ev_var rfl) ⟨rfl, rfl⟩) ?_
    refine ok_seq1 (ok_fN T.kn [] (ev_makeF [] [_] (ea_cons (ev_var rfl) (ea_cons (ev_f T.sp 8 (ev_fO T.kn 1 (ev_var rfl) mi rfl rfl)) (ea_cons (ev_var rfl) ea_nil))) (fun x => ⟨x, Pp, rfl, rfl, rfl⟩) fun _ _ _ h => h) (ev_var rfl) ⟨rfl, rfl⟩) ?_
    exact ok_fN T.kn [] (ev_methO [(a, _)] [] (ev_var rfl) mi ea_nil ⟨a, Pp, rfl, rfl, rfl⟩ fun _ _ h => h) (ev_var rfl) ⟨rfl, rfl⟩
abbrev s_State_init : Stmt := inClass (top 34) 0
abbrev N_State_init : List Str := ["self", "copies", "piece"]
theorem sc_State_init : FnScope N_State_init ["self", "copies", "piece"] (defScope s_State_init) := ⟨rfl, rfl, rfl, by decide +kernel, rfl, by decide +kernel, by decide +kernel⟩
theorem ok_State_init (T : TxK K mg A) (T2 : TxE P K mg A)   {f : Addr} {fd : FuncData} (F : FunD K "__init__" "State.__init__" (defArgs s_State_init) (defBody s_State_init) (defScope s_State_init) [] [] f fd) : FnOk P w K mg base CX0 1 f fd ["self", "copies", "piece"] (spM (S_State_init A)) := by
  refine F.ok sc_State_init (fun vs H Q E h => len_M h (fun Ps r Φ hT => by first | (obtain ⟨_, rfl, _⟩ := hT; rfl) | (obtain ⟨_, _, rfl, _⟩ := hT; rfl) | (obtain ⟨_, _, _, rfl, _⟩ := hT; rfl) | (obtain ⟨_, _, _, _, rfl, _⟩ := hT; rfl) | (obtain ⟨_, _, _, _, _, rfl, _⟩ := hT; rfl) | (obtain ⟨_, _, _, _, _, _, rfl, _⟩ := hT; rfl) | (obtain ⟨_, _, _, _, _, _, _, rfl, _⟩ := hT; rfl) | (obtain ⟨_, _, _, _, _, _, _, _, rfl, _⟩ := hT; rfl) | (obtain ⟨rfl, _⟩ := hT; rfl))) (fun cdv A0 outer s H vs Q E hr h => ?_)
  · have nd := sc_State_init.nd
    have hu := hu_of hr
    refine ⟨_, PSs.nox (pss_cons (ps_fld (pv 0) (pv 1) rfl)
      (pss_cons (ps_fld (pv 0) (pv 2) rfl)
      (pss_cons (ps_fld (pv 0) pe_int rfl)
      (pss_cons (ps_fld (pv 0) pe_int rfl)
      (pss_cons (ps_fld (pv 0) pe_dnewK rfl)
      (pss_cons (ps_fld (pv 0) pe_dnewK rfl)
      (pss_cons (ps_fld (pv 0) pe_dnewK rfl)
      (pss_one (ps_fld (pv 0) pe_non rfl))))))))), ?_⟩
    refine run_M h fun Ps r Φ hT e => ?_
    obtain ⟨a, P1, P2, rfl, rfl, rfl⟩ := hT
    refine ok_seq1 (ok_fN T.st [] (ev_var rfl) (ev_var rfl) ⟨rfl, rfl⟩) ?_
    refine ok_seq1 (ok_fN T.st [] (ev_var rfl) (ev_var rfl) ⟨rfl, rfl⟩) ?_
    refine ok_seq1 (ok_fN T.st [] ev_int (ev_var rfl) ⟨rfl, rfl⟩) ?_
    refine ok_seq1 (ok_fN T.st [] ev_int (ev_var rfl) ⟨rfl, rfl⟩) ?_
    refine ok_seqN T.st [] ex_newD (fun d1 => ev_var rfl) fun d1 => ?_
    refine ok_seqN T.st [(d1, cDk [])] ex_newD (fun d2 => ev_var rfl) fun d2 => ?_
    refine ok_seqN T.st [(d2, cDk []), (d1, cDk [])] ex_newD (fun d3 => ev_var rfl) fun d3 => ?_
    exact ok_fN T.st [(d3, cDk []), (d2, cDk []), (d1, cDk [])] ev_non (ev_var rfl) ⟨rfl, d1, d2, d3, rfl⟩
abbrev s_knowledge_of : Stmt := top 52
abbrev N_knowledge_of : List Str := ["state"]
theorem sc_knowledge_of : FnScope N_knowledge_of ["state"] (defScope s_knowledge_of) := ⟨rfl, rfl, rfl, by decide +kernel, rfl, by decide +kernel, by decide +kernel⟩
theorem ok_knowledge_of (T : TxK K mg A) (T2 : TxE P K mg A) (D_Knowledge : CalI P w K mg base CX0 A.c_Knowledge 6 "Knowledge" ["self", "copies", "piece", "records"] (spM (S_Know_init A K)))  {f : Addr} {fd : FuncData} (F : FunD K "knowledge_of" "knowledge_of" (defArgs s_knowledge_of) (defBody s_knowledge_of) (defScope s_knowledge_of) [] [] f fd) : FnOk P w K mg base CX0 8 f fd ["state"] (spM (S_kof A K)) := by
  refine F.ok sc_knowledge_of (fun vs H Q E h => len_M h (fun Ps r Φ hT => by rcases hT with ⟨_, _, _, _, _, _, _, rfl, _⟩ | ⟨_, _, _, _, _, _, _, rfl, _⟩ <;> rfl)) (fun cdv A0 outer s H vs Q E hr h => ?_)
  · have nd := sc_knowledge_of.nd
    have hu := hu_of hr
    refine ⟨_, PSs.nox (pss_cons (ps_if (pt_cmp (pc_isN (pe_fld (pv 0) rfl)) rfl) (pss_one (ps_fld (pv 0) (pe_cI D_Knowledge pass0 hr rfl (pa_cons (pe_fld (pv 0) rfl) (pa_cons (pe_fld (pv 0) rfl) (pa_cons (pe_fld (pv 0) rfl) pa_nil)))) rfl)) pss_nil)
      (pss_one (ps_ret (pe_fld (pv 0) rfl)))), ?_⟩
    refine run_M h fun Ps r Φ hT e => ?_
    rcases hT with ⟨b, cs, Pp, P3, P4, P5, P7, rfl, hc, rfl, rfl⟩ | ⟨P1, Pp, P3, P4, P5, P6, P7, rfl, rfl, rfl⟩
    · have mi : ∀ {C}, (b, C) ∈ ([(b, C)] : Rs) := List.mem_cons_self
      refine ok_seq1 (ok_if (et_B (ev_isN0 (ev_fO T.st 7 (ev_var rfl) mi rfl rfl))) (fun _ => ok_f T.st 7 [] (ev_makeF [] [_] (ea_cons (ev_fO T.st 0 (ev_var rfl) mi rfl rfl) (ea_cons (ev_fO T.st 1 (ev_var rfl) mi rfl rfl) (ea_cons (ev_fO T.st 5 (ev_var rfl) mi rfl rfl) ea_nil))) (fun x => ⟨x, cs, Pp, rfl, hc, rfl, rfl⟩) fun _ _ _ h => h) (ev_var rfl) ⟨rfl, rfl⟩) fun h => by cases h) ?_
      exact ok_ret (ev_fO T.st 7 (ev_var rfl) mi rfl rfl) ⟨rfl, rfl⟩
    · refine ok_seq1 (ok_if (et_B (ev_isN1 (ev_f T.st 7 (ev_var rfl)) nn_ob)) (fun h => by cases h) fun _ => ok_next ⟨rfl, rfl⟩) ?_
      exact ok_ret (ev_f T.st 7 (ev_var rfl)) ⟨rfl, rfl⟩
abbrev s_laid : Stmt := top 92
abbrev N_laid : List Str := ["state"]
theorem sc_laid : FnScope N_laid ["state"] (defScope s_laid) := ⟨rfl, rfl, rfl, by decide +kernel, rfl, by decide +kernel, by decide +kernel⟩
theorem ok_laid (T : TxK K mg A) (T2 : TxE P K mg A) (D_knowledge_of : CalF P w K mg base CX0 8 "knowledge_of" ["state"] (spM (S_kof A K)))  {f : Addr} {fd : FuncData} (F : FunD K "laid" "laid" (defArgs s_laid) (defBody s_laid) (defScope s_laid) [] [] f fd) : FnOk P w K mg base CX0 9 f fd ["state"] (spM (S_laid A K)) := by
  refine F.ok sc_laid (fun vs H Q E h => len_M h (fun Ps r Φ hT => by obtain ⟨_, _, _, _, _, _, _, _, _, _, rfl, _⟩ := hT; rfl)) (fun cdv A0 outer s H vs Q E hr h => ?_)
  · have nd := sc_laid.nd
    have hu := hu_of hr
    refine ⟨_, PSs.nox (pss_cons (ps_expr (pe_cF D_knowledge_of pass0 hr rfl (pa_cons (pe_frzA (pv 0)) pa_nil)))
      (pss_one (ps_ret (pv 0)))), ?_⟩
    refine run_M h fun Ps r Φ hT e => ?_
    obtain ⟨b, d1, d2, d3, cs, Pp, t, n, k1, k3, rfl, hc, rfl, rfl⟩ := hT
    refine ok_seqD [(b, cOb A.c_State nsState [rTq (pairsP K (csP cs)), Pp, rInt t, rInt n, rDk k1, rDk [], rDk k3, rKno A K Pp])] (ex_call (rc := [_]) (rest := []) (ea_cons (ev_frz3 (ev_var rfl)) ea_nil) (.inl ⟨b, cs, Pp, _, _, _, _, rfl, hc, rfl, rfl⟩)) ?_ ?_
    · rintro P r' ⟨r1, ⟨rfl, rfl⟩, rfl⟩
      rfl
    exact ok_ret (ev_frO (pre := []) (post := []) (ev_var rfl)) ⟨rfl, rfl⟩
abbrev s_is_integer : Stmt := top 24
abbrev N_is_integer : List Str := ["value"]
theorem sc_is_integer : FnScope N_is_integer ["value"] (defScope s_is_integer) := ⟨rfl, rfl, rfl, by decide +kernel, rfl, by decide +kernel, by decide +kernel⟩
theorem ok_is_integer (T : TxK K mg A) (T2 : TxE P K mg A)   {f : Addr} {fd : FuncData} (F : FunD K "is_integer" "is_integer" (defArgs s_is_integer) (defBody s_is_integer) (defScope s_is_integer) [] [] f fd) : FnOk P w K mg base CX0 1 f fd ["value"] (spP fun Ps P => ∃ d, Ps = [rDq K d] ∧ P = rBl (intB (fun _ => true) d)) := by
  refine F.ok sc_is_integer (fun vs H Q E h => len_P h (fun Ps P hT => by first | (obtain ⟨_, rfl, _⟩ := hT; rfl) | (obtain ⟨_, _, rfl, _⟩ := hT; rfl) | (obtain ⟨_, _, _, rfl, _⟩ := hT; rfl) | (obtain ⟨_, _, _, _, rfl, _⟩ := hT; rfl) | (obtain ⟨_, _, _, _, _, rfl, _⟩ := hT; rfl) | (obtain ⟨_, _, _, _, _, _, rfl, _⟩ := hT; rfl) | (obtain ⟨_, _, _, _, _, _, _, rfl, _⟩ := hT; rfl) | (obtain ⟨_, _, _, _, _, _, _, _, rfl, _⟩ := hT; rfl) | (obtain ⟨rfl, _⟩ := hT; rfl))) (fun cdv A0 outer s H vs Q E hr h => ?_)
  · have nd := sc_is_integer.nd
    have hu := hu_of hr
    refine ⟨_, PSs.nox (pss_one (ps_ret (pe_and (pe_callB (id := "isinstance") (r := rIsi K) call_isi (by rfl) T2.n_isinstance (by decide +kernel) (pa_cons (pv 0) (pa_cons (pe_bltn (by rfl) T2.n_int (by decide +kernel) (u := .type "int") (v := .ty "int") rfl) pa_nil))) (pe_one (pe_not (pe_callB (id := "isinstance") (r := rIsi K) call_isi (by rfl) T2.n_isinstance (by decide +kernel) (pa_cons (pv 0) (pa_cons (pe_bltn (by rfl) T2.n_bool (by decide +kernel) (u := .type "bool") (v := .ty "bool") rfl) pa_nil)))))))), ?_⟩
    refine run_P h fun Ps P hT e => ?_
    obtain ⟨d, rfl, rfl⟩ := hT
    refine ok_ret ((ev_andV (ev_isiD (ea_cons (ev_var rfl) (ea_cons ev_cV ea_nil)) (kI d)) fun _ => ev_notV (ev_isiD (ea_cons (ev_var rfl) (ea_cons ev_cV ea_nil)) (kB d))).to (by cases d <;> rfl)) rfl
abbrev s_is_within : Stmt := top 25
abbrev N_is_within : List Str := ["value", "least", "greatest"]
theorem sc_is_within : FnScope N_is_within ["value", "least", "greatest"] (defScope s_is_within) := ⟨rfl, rfl, rfl, by decide +kernel, rfl, by decide +kernel, by decide +kernel⟩
theorem ok_is_within (T : TxK K mg A) (T2 : TxE P K mg A) (D_is_integer : CalF P w K mg base CX0 1 "is_integer" ["value"] (spP fun Ps P => ∃ d, Ps = [rDq K d] ∧ P = rBl (intB (fun _ => true) d)))  {f : Addr} {fd : FuncData} (F : FunD K "is_within" "is_within" (defArgs s_is_within) (defBody s_is_within) (defScope s_is_within) [] [] f fd) : FnOk P w K mg base CX0 2 f fd ["value", "least", "greatest"] (spP fun Ps P => ∃ d a b, Ps = [rDq K d, rInt a, rInt b] ∧ P = rBl (intB (fun i => decide (a ≤ i) && decide (i ≤ b)) d)) := by
  refine F.ok sc_is_within (fun vs H Q E h => len_P h (fun Ps P hT => by first | (obtain ⟨_, rfl, _⟩ := hT; rfl) | (obtain ⟨_, _, rfl, _⟩ := hT; rfl) | (obtain ⟨_, _, _, rfl, _⟩ := hT; rfl) | (obtain ⟨_, _, _, _, rfl, _⟩ := hT; rfl) | (obtain ⟨_, _, _, _, _, rfl, _⟩ := hT; rfl) | (obtain ⟨_, _, _, _, _, _, rfl, _⟩ := hT; rfl) | (obtain ⟨_, _, _, _, _, _, _, rfl, _⟩ := hT; rfl) | (obtain ⟨_, _, _, _, _, _, _, _, rfl, _⟩ := hT; rfl) | (obtain ⟨rfl, _⟩ := hT; rfl))) (fun cdv A0 outer s H vs Q E hr h => ?_)
  · have nd := sc_is_within.nd
    have hu := hu_of hr
    refine ⟨_, PSs.nox (pss_one (ps_ret (pe_and (pe_cF D_is_integer pass0 hr rfl (pa_cons (pv 0) pa_nil)) (pe_one (pe_chain op_le op_le (pv 1) (pv 0) (pv 2)))))), ?_⟩
    refine run_P h fun Ps P hT e => ?_
    obtain ⟨d, a, b, rfl, rfl⟩ := hT
    by_cases hd : ∃ i, d = .int i
    · obtain ⟨i, rfl⟩ := hd
      refine ok_ret ((ev_andV (ev_call (ea_cons (ev_var rfl) ea_nil) ⟨_, rfl, rfl⟩) fun _ => ev_chain (k' := 0) (ev_var rfl) (ev_dInt (ev_var rfl)) (fun H W w => ⟨_, _, rfl, rfl, w⟩) (fun _ => ev_var rfl) (fun H W w => ⟨_, _, rfl, rfl, w⟩))) rfl
    · have h0 : intB (fun _ => true) d = false := by cases d <;> first | rfl | exact absurd ⟨_, rfl⟩ hd
      have h1 : intB (fun i => decide (a ≤ i) && decide (i ≤ b)) d = false := by cases d <;> first | rfl | exact absurd ⟨_, rfl⟩ hd
      rw [h1]
      exact ok_ret ((ev_andV (b := false) (ev_call (ea_cons (ev_var rfl) ea_nil) ⟨_, rfl, rfl⟩) fun h => by rw [h0] at h; cases h).to (by rw [h0]; rfl)) rfl
abbrev s_is_made_of : Stmt := top 26
abbrev N_is_made_of : List Str := ["value", "signs", "sign"]
theorem sc_is_made_of : FnScope N_is_made_of ["value", "signs"] (defScope s_is_made_of) := ⟨rfl, rfl, rfl, by decide +kernel, rfl, by decide +kernel, by decide +kernel⟩
theorem ok_is_made_of (T : TxK K mg A) (T2 : TxE P K mg A)   {f : Addr} {fd : FuncData} (F : FunD K "is_made_of" "is_made_of" (defArgs s_is_made_of) (defBody s_is_made_of) (defScope s_is_made_of) [] [] f fd) : FnOk P w K mg base CX0 1 f fd ["value", "signs"] (spP fun Ps P => ∃ d signs, Ps = [rDq K d, rStr signs] ∧ P = rBl (madeB signs d) ∧ ∀ z, d = .str z → z.length ≤ sizeLine) := by
  refine F.ok sc_is_made_of (fun vs H Q E h => len_P h (fun Ps P hT => by first | (obtain ⟨_, rfl, _⟩ := hT; rfl) | (obtain ⟨_, _, rfl, _⟩ := hT; rfl) | (obtain ⟨_, _, _, rfl, _⟩ := hT; rfl) | (obtain ⟨_, _, _, _, rfl, _⟩ := hT; rfl) | (obtain ⟨_, _, _, _, _, rfl, _⟩ := hT; rfl) | (obtain ⟨_, _, _, _, _, _, rfl, _⟩ := hT; rfl) | (obtain ⟨_, _, _, _, _, _, _, rfl, _⟩ := hT; rfl) | (obtain ⟨_, _, _, _, _, _, _, _, rfl, _⟩ := hT; rfl) | (obtain ⟨rfl, _⟩ := hT; rfl))) (fun cdv A0 outer s H vs Q E hr h => ?_)
  · have nd := sc_is_made_of.nd
    have hu := hu_of hr
    refine ⟨_, PSs.nox (pss_one (ps_ret (pe_and (pe_callB (id := "isinstance") (r := rIsi K) call_isi (by rfl) T2.n_isinstance (by decide +kernel) (pa_cons (pv 0) (pa_cons (pe_bltn (by rfl) T2.n_str (by decide +kernel) (u := .type "str") (v := .ty "str") rfl) pa_nil))) (pe_and (pe_chain op_le op_le pe_int (pe_callB (id := "len") call_len (by rfl) T.n_len (by decide +kernel) (pa_cons (pv 0) pa_nil)) (pe_gI rfl T2.g_MOST_SIGNS)) (pe_one (pe_callB (id := "all") (cr_all rfl) (by rfl) T.n_all (by decide +kernel) (pa_cons (pe_lc (own := [("sign", 2)]) (g := (gName 2)) (tt := tYes) rfl nd (pi_str (pv 0)) (blkOk_by (N := N_is_made_of) (sc := defScope s_is_made_of) (own := [("sign", 2)]) (by decide +kernel)) (fun _ _ _ _ _ => (pg_name (i := 2) nd rfl (by first | exact Or.inl rfl | exact Or.inr rfl))) (fun _ _ _ _ _ => pts_nil) (fun _ _ _ _ _ => (pe_cmpR op_in_sign (pv 2) (pv 1) rfl))) pa_nil))))))), ?_⟩
    refine run_P h fun Ps P hT e => ?_
    obtain ⟨d, signs, rfl, rfl, hz⟩ := hT
    by_cases hd : ∃ z, d = .str z
    · obtain ⟨z, rfl⟩ := hd
      have hz := hz z rfl
      refine ok_ret ((ev_andV (ev_isiD (ea_cons (ev_var rfl) (ea_cons ev_cV ea_nil)) (kS (.str z))) fun _ => ev_andV (ev_chain (k' := 0) ev_int (ev_lenS (ea_cons (ev_dStr (ev_var rfl)) ea_nil) hz) (fun H W w => ⟨_, _, rfl, rfl, w⟩) (fun _ => ev_int) (fun H W w => ⟨_, _, rfl, rfl, w⟩)) fun _ => ev_all (bs := z.cps.toList.map fun c => decide (c ∈ signs.cps.toList)) (ea_cons ?_ ea_nil))) ?_
      · rw [List.map_map]
        exact ev_lcM K (fun c => rBl (decide (c ∈ signs.cps.toList))) (ei_str (ev_dStr (ev_var rfl)) hz) fun _ c _ => ⟨_, _, bg1, all_in, ev_sign (ev_var rfl) (ev_var rfl)⟩
      · show rBl _ = rBl _
        rw [List.all_map]
        rfl
    · have h0 : isS d = false := by cases d <;> first | rfl | exact absurd ⟨_, rfl⟩ hd
      have h1 : madeB signs d = false := by cases d <;> first | rfl | exact absurd ⟨_, rfl⟩ hd
      rw [h1]
      exact ok_ret ((ev_andV (b := false) (ev_isiD (ea_cons (ev_var rfl) (ea_cons ev_cV ea_nil)) (kS d)) fun h => by rw [h0] at h; cases h).to (by rw [h0]; rfl)) rfl
abbrev s_is_copy_name : Stmt := top 28
abbrev N_is_copy_name : List Str := ["value"]
theorem sc_is_copy_name : FnScope N_is_copy_name ["value"] (defScope s_is_copy_name) := ⟨rfl, rfl, rfl, by decide +kernel, rfl, by decide +kernel, by decide +kernel⟩
theorem ok_is_copy_name (T : TxK K mg A) (T2 : TxE P K mg A) (D_is_made_of : CalF P w K mg base CX0 1 "is_made_of" ["value", "signs"] (spP fun Ps P => ∃ d signs, Ps = [rDq K d, rStr signs] ∧ P = rBl (madeB signs d) ∧ ∀ z, d = .str z → z.length ≤ sizeLine))  {f : Addr} {fd : FuncData} (F : FunD K "is_copy_name" "is_copy_name" (defArgs s_is_copy_name) (defBody s_is_copy_name) (defScope s_is_copy_name) [] [] f fd) : FnOk P w K mg base CX0 2 f fd ["value"] (spP fun Ps P => ∃ d, Ps = [rDq K d] ∧ P = rBl (madeB "abcdefghijklmnopqrstuvwxyz" d) ∧ ∀ z, d = .str z → z.length ≤ sizeLine) := by
  refine F.ok sc_is_copy_name (fun vs H Q E h => len_P h (fun Ps P hT => by first | (obtain ⟨_, rfl, _⟩ := hT; rfl) | (obtain ⟨_, _, rfl, _⟩ := hT; rfl) | (obtain ⟨_, _, _, rfl, _⟩ := hT; rfl) | (obtain ⟨_, _, _, _, rfl, _⟩ := hT; rfl) | (obtain ⟨_, _, _, _, _, rfl, _⟩ := hT; rfl) | (obtain ⟨_, _, _, _, _, _, rfl, _⟩ := hT; rfl) | (obtain ⟨_, _, _, _, _, _, _, rfl, _⟩ := hT; rfl) | (obtain ⟨_, _, _, _, _, _, _, _, rfl, _⟩ := hT; rfl) | (obtain ⟨rfl, _⟩ := hT; rfl))) (fun cdv A0 outer s H vs Q E hr h => ?_)
  · have nd := sc_is_copy_name.nd
    have hu := hu_of hr
    refine ⟨_, PSs.nox (pss_one (ps_ret (pe_cF D_is_made_of pass0 hr rfl (pa_cons (pv 0) (pa_cons (pe_gS rfl T2.g_SMALL) pa_nil))))), ?_⟩
    refine run_P h fun Ps P hT e => ?_
    obtain ⟨d, rfl, rfl, hz⟩ := hT
    exact ok_ret (ev_call (ea_cons (ev_var rfl) (ea_cons ev_str ea_nil)) ⟨d, _, rfl, rfl, hz⟩) rfl
abbrev s_is_piece : Stmt := top 31
abbrev N_is_piece : List Str := ["value"]
theorem sc_is_piece : FnScope N_is_piece ["value"] (defScope s_is_piece) := ⟨rfl, rfl, rfl, by decide +kernel, rfl, by decide +kernel, by decide +kernel⟩
theorem ok_is_piece (T : TxK K mg A) (T2 : TxE P K mg A) (D_is_within : CalF P w K mg base CX0 2 "is_within" ["value", "least", "greatest"] (spP fun Ps P => ∃ d a b, Ps = [rDq K d, rInt a, rInt b] ∧ P = rBl (intB (fun i => decide (a ≤ i) && decide (i ≤ b)) d)))  {f : Addr} {fd : FuncData} (F : FunD K "is_piece" "is_piece" (defArgs s_is_piece) (defBody s_is_piece) (defScope s_is_piece) [] [] f fd) : FnOk P w K mg base CX0 3 f fd ["value"] (spP fun Ps P => ∃ d, Ps = [rDq K d] ∧ P = rBl (intB (fun i => decide (1 ≤ i) && decide (i ≤ 64)) d)) := by
  refine F.ok sc_is_piece (fun vs H Q E h => len_P h (fun Ps P hT => by first | (obtain ⟨_, rfl, _⟩ := hT; rfl) | (obtain ⟨_, _, rfl, _⟩ := hT; rfl) | (obtain ⟨_, _, _, rfl, _⟩ := hT; rfl) | (obtain ⟨_, _, _, _, rfl, _⟩ := hT; rfl) | (obtain ⟨_, _, _, _, _, rfl, _⟩ := hT; rfl) | (obtain ⟨_, _, _, _, _, _, rfl, _⟩ := hT; rfl) | (obtain ⟨_, _, _, _, _, _, _, rfl, _⟩ := hT; rfl) | (obtain ⟨_, _, _, _, _, _, _, _, rfl, _⟩ := hT; rfl) | (obtain ⟨rfl, _⟩ := hT; rfl))) (fun cdv A0 outer s H vs Q E hr h => ?_)
  · have nd := sc_is_piece.nd
    have hu := hu_of hr
    refine ⟨_, PSs.nox (pss_one (ps_ret (pe_cF D_is_within pass0 hr rfl (pa_cons (pv 0) (pa_cons pe_int (pa_cons (pe_gI rfl T2.g_MOST_PIECE) pa_nil)))))), ?_⟩
    refine run_P h fun Ps P hT e => ?_
    obtain ⟨d, rfl, rfl⟩ := hT
    exact ok_ret (ev_call (ea_cons (ev_var rfl) (ea_cons ev_int (ea_cons ev_int ea_nil))) ⟨d, _, _, rfl, rfl⟩) rfl
abbrev s_is_ring_free : Stmt := top 29
abbrev N_is_ring_free : List Str := ["followed", "name", "here", "steps"]
theorem sc_is_ring_free : FnScope N_is_ring_free ["followed"] (defScope s_is_ring_free) := ⟨rfl, rfl, rfl, by decide +kernel, rfl, by decide +kernel, by decide +kernel⟩
theorem ok_is_ring_free (T : TxK K mg A) (T2 : TxE P K mg A)   {f : Addr} {fd : FuncData} (F : FunD K "is_ring_free" "is_ring_free" (defArgs s_is_ring_free) (defBody s_is_ring_free) (defScope s_is_ring_free) [] [] f fd) : FnOk P w K mg base CX0 1 f fd ["followed"] (spP fun Ps P => ∃ cs, Ps = [rDk (csP cs)] ∧ cs.length ≤ 6 ∧ (cs.map (·.1)).Nodup ∧ folB cs = true ∧ P = rBl (freeB cs)) := by
  refine F.ok sc_is_ring_free (fun vs H Q E h => len_P h (fun Ps P hT => by first | (obtain ⟨_, rfl, _⟩ := hT; rfl) | (obtain ⟨_, _, rfl, _⟩ := hT; rfl) | (obtain ⟨_, _, _, rfl, _⟩ := hT; rfl) | (obtain ⟨_, _, _, _, rfl, _⟩ := hT; rfl) | (obtain ⟨_, _, _, _, _, rfl, _⟩ := hT; rfl) | (obtain ⟨_, _, _, _, _, _, rfl, _⟩ := hT; rfl) | (obtain ⟨_, _, _, _, _, _, _, rfl, _⟩ := hT; rfl) | (obtain ⟨_, _, _, _, _, _, _, _, rfl, _⟩ := hT; rfl) | (obtain ⟨rfl, _⟩ := hT; rfl))) (fun cdv A0 outer s H vs Q E hr h => ?_)
  · have nd := sc_is_ring_free.nd
    have hu := hu_of hr
    refine ⟨_, PSs.nox (pss_cons (ps_for PassesOwn.never rfl (pi_keys (pv 0)) (pg_name (i := 1) nd rfl (by first | exact Or.inl rfl | exact Or.inr rfl)) (pss_cons (ps_par (i := 2) (j := 3) (by rfl) nd rfl rfl (by decide) rfl rfl (pa_cons (pv 1) (pa_cons pe_int pa_nil)) (by rfl))
      (pss_one (ps_while PassesOwn.never (pt_cmp (pc_notN (pv 2)) rfl) (pss_cons (ps_par (i := 2) (j := 3) (by rfl) nd rfl rfl (by decide) rfl rfl (pa_cons (pe_dget hu (pv 0) (pv 2) (fun _ _ => rfl)) (pa_cons (pe_op op_add (pv 3) pe_int) pa_nil)) (by rfl))
      (pss_one (ps_if (pt_cmpR op_gt (pv 3) (pe_callB (id := "len") call_lenDR (by rfl) T.n_len (by decide +kernel) (pa_cons (pv 0) pa_nil)) (nomark _)) (pss_one (ps_ret pe_bl)) pss_nil)))))))
      (pss_one (ps_ret pe_bl))), ?_⟩
    refine run_P h fun Ps P hT e => ?_
    obtain ⟨cs, rfl, hz6, nd, fo, rfl⟩ := hT
    have cl : (csP cs).length = cs.length := by unfold csP; rw [List.length_map]
    have bad : ∀ c ∈ cs, ends cs cs.length (some c.1) = false → freeB cs = false := fun c hc h => by
      rw [Bool.eq_false_iff]
      intro q
      rw [List.all_eq_true.mp q c hc] at h
      cases h
    refine ok_seq (fun s' r' => Lo [some (rDk (csP cs)), none, none, none] s' ∧ r' = [] ∧ ∀ c ∈ cs, ends cs cs.length (some c.1) = true) (ok_forM (R := fun kv : Key × Pr => rV (kV kv.1)) (xs := csP cs) (fun pre s' r' => Lo [some (rDk (csP cs)), none, none, none] s' ∧ r' = [] ∧ ∀ c ∈ cs.take pre.length, ends cs cs.length (some c.1) = true) (ei_keys (ev_var rfl)) ⟨.keep (.skip (.skip (.skip .nil))), rfl, fun c hc => by simp at hc⟩ ?_ ?_) ?_
    · rintro _ pre x suf hm s' r' ⟨hl, rfl, hall⟩
      have hx : x ∈ csP cs := by rw [hm]; exact List.mem_append_right _ List.mem_cons_self
      have hgx : cs[pre.length]?.map (fun c => ((.inr c.1 : Key), rOpt rStr c.2)) = some x := by
        have : (csP cs)[pre.length]? = some x := by rw [hm, List.getElem?_append_right (Nat.le_refl _), Nat.sub_self]; rfl
        unfold csP at this
        rw [List.getElem?_map] at this
        exact this
      obtain ⟨c, hcg, rfl⟩ := Option.map_eq_some_iff.mp hgx
      have hc1 : c ∈ cs := List.mem_of_getElem? hcg
      have htk : cs.take (pre ++ [((.inr c.1 : Key), rOpt rStr c.2)]).length = cs.take pre.length ++ [c] := by
        rw [List.length_append, List.length_singleton, List.take_add_one, hcg]; rfl
      refine ⟨_, _, bg1, ?_⟩
      refine Ok.lo (s' := ([some (rDk (csP cs)), some (rStr c.1), none, none] : Sls)) ?_ (Lo.set 1 hl)
      refine ok_seq1 (ok_par (ea_cons (ev_var rfl) (ea_cons ev_int ea_nil)) ⟨rfl, rfl⟩) ?_
      refine ok_while (fun k s' r' => ∃ (o : Option Str) (st j : Nat), s' = [some (rDk (csP cs)), some (rStr c.1), some (rOpt rStr o), some (rInt (st : Int))] ∧ r' = [] ∧ k = j + 1 ∧ ends cs cs.length (some c.1) = ends cs j o ∧ st + j = cs.length ∧ (∀ z, o = some z → z ∈ cs.map (·.1))) (cs.length + 1) ⟨some c.1, 0, cs.length, rfl, rfl, rfl, rfl, by omega, fun z h => by cases h; exact List.mem_map_of_mem hc1⟩ ?_
      rintro k s' r' ⟨o, st, j, rfl, rfl, rfl, he, hz, hm1⟩
      refine ⟨_, _, et_B (ev_notNO (ev_var rfl) fun z => nn_str), fun hb => ?_, fun hb => ?_⟩
      · cases o with
        | none => cases hb
        | some z =>
          obtain ⟨c2, hc2, e2⟩ := List.mem_map.mp (hm1 z rfl)
          have hlk : cs.lookup z = some c2.2 := by rw [← e2]; exact lookup_mem nd hc2
          refine ok_seq1 (ok_par (ea_cons (ev_dget (k := .inr z) (ev_var rfl) (ev_var rfl) (fun _ _ h => h) (by rw [csP_val, hlk]; rfl)) (ea_cons (ev_add (ev_var rfl) ev_int) ea_nil)) ⟨rfl, rfl⟩) ?_
          refine ok_if (b := decide (((csP cs).length : Int) < (st : Int) + 1)) (et_test (ev_gt (ev_var rfl) (ev_lenD (ea_cons (ev_var rfl) ea_nil)))) (fun h => ?_) fun h => ?_
          · have h := of_decide_eq_true h
            rw [cl] at h
            have j0 : j = 0 := by omega
            subst j0
            have : ends cs cs.length (some c.1) = false := by rw [he]; rfl
            exact ok_ret ev_bl (show rBl false = rBl (freeB cs) by rw [bad c hc1 this])
          · have h := of_decide_eq_false h
            rw [cl] at h
            cases j with
            | zero => omega
            | succ j =>
              have he2 : ends cs (j + 1) (some z) = ends cs j c2.2 := by
                show (match cs.lookup z with | none => false | some o => ends cs j o) = _
                rw [hlk]
              refine ok_next ⟨j + 1, by omega, c2.2, st + 1, j, ?_, rfl, rfl, by rw [he, he2], by omega, fun y hy => ?_⟩
              · rw [show ((st + 1 : Nat) : Int) = (st : Int) + 1 from by omega]; rfl
              · have hf : (match c2.2 with | none => true | some z => decide (z ∈ cs.map (·.1))) = true := List.all_eq_true.mp fo c2 hc2
                rw [hy] at hf
                exact of_decide_eq_true hf
      · cases o with
        | some z => cases hb
        | none =>
          refine ⟨.keep (.skip (.skip (.skip .nil))), rfl, fun c' hc' => ?_⟩
          rw [htk] at hc'
          rcases List.mem_append.mp hc' with h | h
          · exact hall c' h
          · rw [List.mem_singleton.mp h, he]; cases j <;> rfl
    · rintro s' r' ⟨a, b, h⟩
      rw [cl, List.take_length] at h
      exact ⟨a, b, h⟩
    rintro s' r' ⟨a, rfl, h⟩
    exact Ok.lo (ok_ret ev_bl (show rBl true = rBl (freeB cs) by rw [show freeB cs = true from List.all_eq_true.mpr h])) a
abbrev s_are_copies : Stmt := top 30
abbrev N_are_copies : List Str := ["value", "pair", "names", "name", "other"]
theorem sc_are_copies : FnScope N_are_copies ["value"] (defScope s_are_copies) := ⟨rfl, rfl, rfl, by decide +kernel, rfl, by decide +kernel, by decide +kernel⟩
theorem ok_are_copies (T : TxK K mg A) (T2 : TxE P K mg A) (D_is_copy_name : CalF P w K mg base CX0 2 "is_copy_name" ["value"] (spP fun Ps P => ∃ d, Ps = [rDq K d] ∧ P = rBl (madeB "abcdefghijklmnopqrstuvwxyz" d) ∧ ∀ z, d = .str z → z.length ≤ sizeLine)) (D_is_ring_free : CalF P w K mg base CX0 1 "is_ring_free" ["followed"] (spP fun Ps P => ∃ cs, Ps = [rDk (csP cs)] ∧ cs.length ≤ 6 ∧ (cs.map (·.1)).Nodup ∧ folB cs = true ∧ P = rBl (freeB cs)))  {f : Addr} {fd : FuncData} (F : FunD K "are_copies" "are_copies" (defArgs s_are_copies) (defBody s_are_copies) (defScope s_are_copies) [] [] f fd) : FnOk P w K mg base CX0 3 f fd ["value"] (spP fun Ps P => ∃ d, Ps = [rVd K d] ∧ ShV d ∧ P = rBl (cpB d)) := by
  refine F.ok sc_are_copies (fun vs H Q E h => len_P h (fun Ps P hT => by first | (obtain ⟨_, rfl, _⟩ := hT; rfl) | (obtain ⟨_, _, rfl, _⟩ := hT; rfl) | (obtain ⟨_, _, _, rfl, _⟩ := hT; rfl) | (obtain ⟨_, _, _, _, rfl, _⟩ := hT; rfl) | (obtain ⟨_, _, _, _, _, rfl, _⟩ := hT; rfl) | (obtain ⟨_, _, _, _, _, _, rfl, _⟩ := hT; rfl) | (obtain ⟨_, _, _, _, _, _, _, rfl, _⟩ := hT; rfl) | (obtain ⟨_, _, _, _, _, _, _, _, rfl, _⟩ := hT; rfl) | (obtain ⟨rfl, _⟩ := hT; rfl))) (fun cdv A0 outer s H vs Q E hr h => ?_)
  · have nd := sc_are_copies.nd
    have hu := hu_of hr
    refine ⟨_, PSs.nox (pss_cons (ps_if (PW.pt (pw_or (pt_not (pt_val (pe_callB (id := "isinstance") (r := rIsi K) call_isi (by rfl) T2.n_isinstance (by decide +kernel) (pa_cons (pv 0) (pa_cons (pe_bltn (by rfl) T.n_tuple (by decide +kernel) (u := .type "tuple") (v := .ty "tuple") rfl) pa_nil))))) (pw_or1 (pt_not (pt_chain op_le op_le pe_int (pe_callB (id := "len") call_len (by rfl) T.n_len (by decide +kernel) (pa_cons (pv 0) pa_nil)) (pe_gI rfl T2.g_MOST_COPIES)))))) (pss_one (ps_ret pe_bl)) pss_nil)
      (pss_cons (ps_for PassesOwn.never rfl (pi_tup (pv 0)) (pg_name (i := 1) nd rfl (by first | exact Or.inl rfl | exact Or.inr rfl)) (pss_cons (ps_if (PW.pt (pw_or (pt_not (pt_val (pe_callB (id := "isinstance") (r := rIsi K) call_isi (by rfl) T2.n_isinstance (by decide +kernel) (pa_cons (pv 1) (pa_cons (pe_bltn (by rfl) T.n_tuple (by decide +kernel) (u := .type "tuple") (v := .ty "tuple") rfl) pa_nil))))) (pw_or (pt_cmpR op_ne (pe_callB (id := "len") call_len (by rfl) T.n_len (by decide +kernel) (pa_cons (pv 1) pa_nil)) (pe_gI rfl T2.g_PAIR_forms) (nomark _)) (pw_or1 (pt_not (pt_val (pe_cF D_is_copy_name pass0 hr rfl (pa_cons (pe_ix (r := rIxT K) ix_tup (pv 1) pe_int (fun _ _ => rfl)) pa_nil)))))))) (pss_one (ps_ret pe_bl)) pss_nil)
      (pss_one (ps_if (PW.pt (pw_and (pt_cmp (pc_notN (pe_ix (r := rIxT K) ix_tup (pv 1) pe_int (fun _ _ => rfl))) rfl) (pw_and1 (pt_not (pt_val (pe_cF D_is_copy_name pass0 hr rfl (pa_cons (pe_ix (r := rIxT K) ix_tup (pv 1) pe_int (fun _ _ => rfl)) pa_nil))))))) (pss_one (ps_ret pe_bl)) pss_nil))))
      (pss_cons (ps_set (i := 2) nd rfl (by first | exact Or.inl rfl | exact Or.inr rfl) (pe_lc (own := [("name", 3), ("other", 4)]) (g := (gTup K 2 (gCons (gName 3) (gCons (gName 4) gNil)))) (tt := tYes) rfl nd (pi_tup (pv 0)) (blkOk_by (N := N_are_copies) (sc := defScope s_are_copies) (own := [("name", 3), ("other", 4)]) (by decide +kernel)) (fun _ _ _ _ _ => (pg_tup rfl (pgs_cons (pg_name (i := 3) nd rfl (by first | exact Or.inl rfl | exact Or.inr rfl)) (pgs_cons (pg_name (i := 4) nd rfl (by first | exact Or.inl rfl | exact Or.inr rfl)) pgs_nil)))) (fun _ _ _ _ _ => pts_nil) (fun _ _ _ _ _ => (pv 3))))
      (pss_cons (ps_if (PW.pt (pw_or (pt_cmpR (op_neD hr.units) (pv 2) (pe_callB (id := "sorted") (cr_sortedSS rfl) (by rfl) T.n_sorted (by decide +kernel) (pa_cons (pe_callTy (cr_setS rfl) (by rfl) T.n_set (by decide +kernel) (pa_cons (pv 2) pa_nil)) pa_nil)) (nomark _)) (pw_or1 (pt_not (pt_val (pe_callB (id := "all") (cr_all rfl) (by rfl) T.n_all (by decide +kernel) (pa_cons (pe_lc (own := [("name", 3), ("other", 4)]) (g := (gTup K 2 (gCons (gName 3) (gCons (gName 4) gNil)))) (tt := tYes) rfl nd (pi_tup (pv 0)) (blkOk_by (N := N_are_copies) (sc := defScope s_are_copies) (own := [("name", 3), ("other", 4)]) (by decide +kernel)) (fun _ _ _ _ _ => (pg_tup rfl (pgs_cons (pg_name (i := 3) nd rfl (by first | exact Or.inl rfl | exact Or.inr rfl)) (pgs_cons (pg_name (i := 4) nd rfl (by first | exact Or.inl rfl | exact Or.inr rfl)) pgs_nil)))) (fun _ _ _ _ _ => pts_nil) (fun _ _ _ _ _ => (pe_or (pe_cmp (pc_isN (pv 4)) rfl) (pe_one (pe_cmpR (r := rIn K false) op_in_seq (pv 4) (pv 2) rfl))))) pa_nil))))))) (pss_one (ps_ret pe_bl)) pss_nil)
      (pss_one (ps_ret (pe_cF D_is_ring_free pass0 hr rfl (pa_cons (pe_frz (pe_callTy (call_dictT rfl) (by rfl) T.n_dict (by decide +kernel) (pa_cons (pv 0) pa_nil))) pa_nil)))))))), ?_⟩
    refine run_P h fun Ps P hT e => ?_
    obtain ⟨d, rfl, hsh, rfl⟩ := hT
    by_cases hd : ∃ ds, d = .tuple ds
    case neg =>
      have h0 : isT d = false := by cases d <;> first | rfl | exact absurd ⟨_, rfl⟩ hd
      have h1 : cpB d = false := by cases d <;> first | rfl | exact absurd ⟨_, rfl⟩ hd
      rw [h1]
      refine ok_ifK (ext_of (b := true) ((et_or (b := true) (et_not (et_test (ev_isiD (ea_cons (Ev.imp (ev_var rfl) vd_dq) (ea_cons ev_cV ea_nil)) (kT d)))) fun h => by rw [h0] at h; cases h).to (by rw [h0]; rfl)) ⟨fun _ => ok_retSeq (ex_of ev_bl rfl), fun h => (by cases h)⟩)
    obtain ⟨ds, rfl⟩ := hd
    obtain ⟨hzl, hsp⟩ := hsh ds rfl
    have evT : ∀ {s' : Sls} {r' : Rs}, s'[0]? = some (some (rVd K (.tuple ds))) → Ev s' r' (tVar 0) (rTs K (ds.map (rDq K))) r' := fun h => ev_dTs (Ev.imp (ev_var h) vd_dq) hzl
    have lp : (ds.map (rDq K)).length = ds.length := List.length_map _
    refine ok_ifK (ext_of (r1 := []) (b := !(decide (1 ≤ ds.length) && decide (ds.length ≤ 6))) (EvT.to (et_or (et_not (et_test (ev_isiD (ea_cons (Ev.imp (ev_var rfl) vd_dq) (ea_cons ev_cV ea_nil)) (kT (.tuple ds))))) fun _ => et_not (et_test (ev_chain (k' := 0) ev_int (ev_lenT (ea_cons (evT rfl) ea_nil)) (fun H W w => ⟨_, _, rfl, rfl, w⟩) (fun _ => ev_int) (fun H W w => ⟨_, _, rfl, rfl, w⟩)))) ?_) ⟨fun h => ok_retSeq (ex_of ev_bl ?_), fun h => ok_nextSeq ?_⟩)
    · rw [lp]
      show (!true || !(decide ((1 : Int) ≤ (ds.length : Int)) && decide ((ds.length : Int) ≤ 6))) = _
      rw [show decide ((1 : Int) ≤ (ds.length : Int)) = decide (1 ≤ ds.length) from decide_eq_decide.mpr (by omega), show decide ((ds.length : Int) ≤ 6) = decide (ds.length ≤ 6) from decide_eq_decide.mpr (by omega)]
      rfl
    · show rBl false = rBl (prsB ds && goodB (csD ds))
      have : prsB ds = false := by
        show (decide (1 ≤ ds.length) && (decide (ds.length ≤ 6) && ds.all prB)) = false
        have h := not_eq h
        rw [← Bool.and_assoc, h]; rfl
      rw [this]; rfl
    have hlen := not_eq' h
    rw [Bool.and_eq_true, decide_eq_true_eq, decide_eq_true_eq] at hlen
    refine ok_seq (fun s' r' => Lo [some (rVd K (.tuple ds)), none, none, none, none] s' ∧ r' = [] ∧ ds.all prB = true) (ok_forM (R := rDq K) (xs := ds) (fun pre s' r' => Lo [some (rVd K (.tuple ds)), none, none, none, none] s' ∧ r' = [] ∧ pre.all prB = true) (ei_tup (evT rfl)) ⟨.keep (.skip (.skip (.skip (.skip .nil)))), rfl, rfl⟩ ?_ fun s' r' h => h) ?_
    · rintro _ pre x suf hm s' r' ⟨hl, rfl, hpre⟩
      have hx : x ∈ ds := by rw [hm]; exact List.mem_append_right _ List.mem_cons_self
      have hxs := hsp x hx
      refine ⟨_, _, bg1, ?_⟩
      refine Ok.lo (s' := ([some (rVd K (.tuple ds)), some (rDq K x), none, none, none] : Sls)) ?_ (Lo.set 1 hl)
      have evX : ∀ {es : List PyData} {s' : Sls} {r' : Rs}, x = .tuple es → s'[1]? = some (some (rDq K x)) → Ev s' r' (tVar 1) (rTs K (es.map (rDq K))) r' := fun {es s' r'} e h => ev_dTs ((ev_var h).to (by rw [e])) (hxs es e).1
      refine ok_ifK (ext_of (r1 := []) (et_p1 (ev_isiD (ea_cons (ev_var rfl) (ea_cons ev_cV ea_nil)) (kT x)) (fun es e => (ev_neI (ev_lenT (ea_cons (evX e rfl) ea_nil)) ev_int).to (by rw [List.length_map])) fun a b e => ev_call (ea_cons (ev_ixT0 0 (Ps := [rDq K a, rDq K b]) (evX e rfl) rfl) ea_nil) ⟨a, rfl, rfl, (hxs _ e).2 a List.mem_cons_self⟩) ⟨fun h => ok_retSeq (ex_of ev_bl ?_), fun h => ok_nextSeq ?_⟩)
      · show rBl false = rBl _
        rw [pr_mem hx (by show (pB1 x && pB2 x) = false; rw [not_eq h]; rfl)]
      obtain ⟨a, b, rfl, ha⟩ := p1_tup (not_eq' h)
      refine ok_if (et_p2 (b := b) (ev_notND (ev_ixT0 1 (Ps := [rDq K a, rDq K b]) (evX rfl rfl) rfl)) (ev_call (ea_cons (ev_ixT0 1 (Ps := [rDq K a, rDq K b]) (evX rfl rfl) rfl) ea_nil) ⟨b, rfl, rfl, (hxs _ rfl).2 b (List.mem_cons_of_mem _ List.mem_cons_self)⟩)) (fun h2 => ok_ret ev_bl ?_) fun h2 => ok_next ⟨.keep (.skip (.skip (.skip (.skip .nil)))), rfl, ?_⟩
      · show rBl false = rBl _
        rw [pr_mem hx (by show (pB1 _ && (noneB b || nmB b)) = false; rw [not_eq h2, Bool.and_false])]
      · rw [List.all_append, hpre]
        show (true && (prB (.tuple [a, b]) && true)) = true
        rw [show prB (.tuple [a, b]) = true from by show (pB1 _ && (noneB b || nmB b)) = true; rw [not_eq' h, not_eq' h2]; rfl]
        rfl
    rintro s' r' ⟨hl, rfl, hall⟩
    refine Ok.lo ?_ hl
    have hprs : prsB ds = true := by
      show (decide (1 ≤ ds.length) && (decide (ds.length ≤ 6) && ds.all prB)) = true
      rw [decide_eq_true hlen.1, decide_eq_true hlen.2, hall]; rfl
    have hds := prs_eq hprs
    have hpr := prs_cs hprs
    have hcp : cpB (.tuple ds) = goodB (csD ds) := by show (prsB ds && _) = _; rw [hprs]; rfl
    have icp : csD ((csD ds).map dPr) = csD ds := by rw [← hds]
    generalize csD ds = cs at *
    subst hds
    have evP : ∀ {s' : Sls} {r' : Rs}, s'[0]? = some (some (rVd K (.tuple (cs.map dPr)))) → Ev s' r' (tVar 0) (rTs K (cs.map (rPair K))) r' := fun {s' r'} h => (evT h).imp fun G v ⟨z, a, vs, e, hs, al⟩ => ⟨by rw [List.length_map, List.length_map] at z; rw [List.length_map]; exact z, a, vs, e, hs, by rw [List.map_map] at al; exact all2_impR (fun c G v h => dq_pairs G v h) al⟩
    have en : (cs.map fun c => rStr c.1) = (cs.map (·.1)).map rStr := by rw [List.map_map]; rfl
    refine ok_seq1 (ok_asg (ev_lcM K (fun c : Str × Option Str => rStr c.1) (ei_tup (evP rfl)) fun _ c hx => ⟨_, _, bg2, all_in, ev_var rfl⟩) ⟨rfl, rfl⟩) ?_
    rw [en]
    have ok_z : ∀ z ∈ cs.map (·.1), PyData.strOk z = true := fun z hz => by
      obtain ⟨c, h1, rfl⟩ := List.mem_map.mp hz
      exact (made_ok (hpr.nm c h1)).1
    have ln : (cs.map (·.1)).length ≤ 6 := by rw [List.length_map]; exact hpr.z
    have onm : ∀ z ∈ once [] (cs.map (·.1)), z ∈ cs.map (·.1) := once_sub _
    have onl : (once [] (cs.map (·.1))).length ≤ 6 := Nat.le_trans (once_len _) ln
    refine ok_ifK (ext_or (ext_test (ex_op2 (ex_of (ev_var rfl) (EvX.imp (ex_sortedSet (ea_cons (ev_var rfl) ea_nil) (by omega) (Nat.lt_of_le_of_lt (Nat.succ_le_succ ln) (by decide))) ?srt)))))
    case srt =>
      rintro P' r'' ⟨ys, pm, so, rfl, rfl⟩
      refine ⟨_, rv_neLS2 ok_z (fun z hz => ok_z z (onm z (pm.mem_iff.mp hz))), _, rfl, fun h => ?_, fun h => ?_⟩
      · refine ⟨fun _ => ok_retSeq (ex_of ev_bl ?_), fun h => (by cases h)⟩
        rw [strict_iff pm so (once_nd _ _ List.nodup_nil)] at h
        show rBl false = rBl _
        rw [hcp]
        show rBl false = rBl (strictB _ && _)
        rw [not_eq h]; rfl
      · rw [strict_iff pm so (once_nd _ _ List.nodup_nil)] at h
        have hst := not_eq' h
        have nd : (cs.map (·.1)).Nodup := of_decide_eq_true (Bool.and_eq_true_iff.mp hst).2
        refine ext_of (r1 := []) (et_not (et_test (ev_all (bs := cs.map fun c => match c.2 with | none => true | some z => decide (z ∈ cs.map (·.1))) (ea_cons ?_ ea_nil)))) ⟨fun h => ok_retSeq (ex_of ev_bl ?_), fun h => ok_nextSeq ?_⟩
        · rw [show List.map rBl (List.map (fun c : Str × Option Str => match c.2 with | none => true | some z => decide (z ∈ cs.map (·.1))) cs) = List.map (fun c : Str × Option Str => rBl (match c.2 with | none => true | some z => decide (z ∈ cs.map (·.1)))) cs from by rw [List.map_map]; rfl]
          refine ev_lcM K (R := rPair K) (xs := cs) (fun c : Str × Option Str => rBl (match c.2 with | none => true | some z => decide (z ∈ cs.map (·.1)))) (ei_tup (evP rfl)) fun _ c hx => ⟨_, _, bg2, all_in, ?_⟩
          obtain ⟨z, o⟩ := c
          cases o with
          | none => exact (ev_orV (b := true) (ev_isN0 (ev_var rfl)) fun h => by cases h)
          | some z2 => exact (ev_orV (ev_isN1 (ev_var rfl) nn_str) fun _ => ev_inLS2 (ev_var rfl) (ev_var rfl)).to rfl
        · show rBl false = rBl _
          rw [hcp]
          have h := not_eq h
          rw [List.all_map] at h
          have h : folB cs = false := h
          show rBl false = rBl (strictB _ && (folB cs && freeB cs))
          rw [h]; rw [Bool.false_and, Bool.and_false]
        · have h := not_eq' h
          rw [List.all_map] at h
          have h : folB cs = true := h
          have hT : cpB (.tuple (cs.map dPr)) = freeB cs := by
            rw [hcp]
            show (strictB _ && (folB cs && freeB cs)) = _
            rw [hst, h]; rfl
          have hC : cpC (.tuple (cs.map dPr)) = true := by
            show (prsB _ && (strictB ((csD (cs.map dPr)).map (·.1)) && folB (csD (cs.map dPr)))) = true
            rw [icp, hprs, hst, h]; rfl
          refine ok_ret (ev_call (ea_cons (ev_frX (ex_dictT (ea_cons (Ev.imp (ev_var rfl) (vd_pairs hC)) ea_nil) (by rw [csP_keys]; exact nodup_inr nd))) ea_nil) ⟨cs, rfl, hpr.z, nd, h, rfl⟩) ?_
          show rBl _ = rBl _
          rw [hT]
abbrev s_Keeper_init : Stmt := inClass (top 93) 0
abbrev N_Keeper_init : List Str := ["self", "copies", "piece"]
theorem sc_Keeper_init : FnScope N_Keeper_init ["self", "copies", "piece"] (defScope s_Keeper_init) := ⟨rfl, rfl, rfl, by decide +kernel, rfl, by decide +kernel, by decide +kernel⟩
theorem ok_Keeper_init (T : TxK K mg A) (T2 : TxE P K mg A) (D_are_copies : CalF P w K mg base CX0 3 "are_copies" ["value"] (spP fun Ps P => ∃ d, Ps = [rVd K d] ∧ ShV d ∧ P = rBl (cpB d))) (D_is_piece : CalF P w K mg base CX0 3 "is_piece" ["value"] (spP fun Ps P => ∃ d, Ps = [rDq K d] ∧ P = rBl (intB (fun i => decide (1 ≤ i) && decide (i ≤ 64)) d))) (D_laid : CalF P w K mg base CX0 9 "laid" ["state"] (spM (S_laid A K))) (D_State : CalI P w K mg base CX0 A.c_State 1 "State" ["self", "copies", "piece"] (spM (S_State_init A)))  {f : Addr} {fd : FuncData} (F : FunD K "__init__" "Keeper.__init__" (defArgs s_Keeper_init) (defBody s_Keeper_init) (defScope s_Keeper_init) [] [(("piece" : Str), V.int 4)] f fd) : FnOk P w K mg base (L2.CX P w) 10 f fd ["self", "copies", "piece"] (spR (S_Keep85 A K)) := by
  refine F.ok sc_Keeper_init (fun vs H Q E h => len_R h (fun Ps r Φ Ψ hT => by first | (obtain ⟨_, rfl, _⟩ := hT; rfl) | (obtain ⟨_, _, rfl, _⟩ := hT; rfl) | (obtain ⟨_, _, _, rfl, _⟩ := hT; rfl) | (obtain ⟨_, _, _, _, rfl, _⟩ := hT; rfl) | (obtain ⟨_, _, _, _, _, rfl, _⟩ := hT; rfl) | (obtain ⟨_, _, _, _, _, _, rfl, _⟩ := hT; rfl) | (obtain ⟨_, _, _, _, _, _, _, rfl, _⟩ := hT; rfl) | (obtain ⟨_, _, _, _, _, _, _, _, rfl, _⟩ := hT; rfl) | (obtain ⟨rfl, _⟩ := hT; rfl))) (fun cdv A0 outer s H vs Q E hr h => ?_)
  · have nd := sc_Keeper_init.nd
    have hu := hu_of hr
    have tk : Takes (cxOf (L2.CX P w) P w K mg base N_Keeper_init "Keeper.__init__" (defScope s_Keeper_init) f cdv A0 outer s H E) (fun cls d _ H' => E cls d H') := takes_of rfl rfl rfl rfl
    have ps : Passes (L2.CX P w) (cxOf (L2.CX P w) P w K mg base N_Keeper_init "Keeper.__init__" (defScope s_Keeper_init) f cdv A0 outer s H E) E := passes_call tk fun _ _ _ _ h => h
    refine ⟨_, (pss_cons (ps_if (pt_not (pt_val (pe_cF D_are_copies pass0 hr rfl (pa_cons (pv 1) pa_nil)))) (pss_one (ps_raiseE rfl T2.x_BadCopies hr tk (pa_cons (pv 1) pa_nil))) pss_nil)
      (pss_cons (ps_if (pt_not (pt_val (pe_cF D_is_piece pass0 hr rfl (pa_cons (pv 2) pa_nil)))) (pss_one (ps_raiseE rfl T2.x_BadPiece hr tk (pa_cons (pv 2) pa_nil))) pss_nil)
      (pss_cons (ps_fld (pv 0) (pe_cF D_laid pass0 hr rfl (pa_cons (pe_cI D_State pass0 hr rfl (pa_cons (pv 1) (pa_cons (pv 2) pa_nil))) pa_nil)) rfl)
      (pss_cons (ps_fld (pv 0) pe_int rfl)
      (pss_cons (ps_fld (pv 0) pe_int rfl)
      (pss_one (ps_fld (pv 0) pe_int rfl))))))), ?_⟩
    refine run_R h fun Ps r Φ Ψ hT e hx => ?_
    obtain ⟨a, d, u, rfl, hsh, rfl, rfl, rfl⟩ := hT
    refine ok_guard (et_not (et_test (ev_call (ea_cons (ev_var rfl) ea_nil) ⟨d, rfl, hsh, rfl⟩))) (fun hw po => ok_raise (ea_cons (ev_var rfl) ea_nil) hx ⟨.inl ⟨rfl, rfl, not_eq hw⟩, rfl⟩) fun hw => ?_
    have hcp : cpB d = true := not_eq' hw
    refine ok_guard (et_not (et_test (ev_call (ea_cons (ev_var rfl) ea_nil) ⟨u, rfl, rfl⟩))) (fun hw po => ok_raise (ea_cons (ev_var rfl) ea_nil) hx ⟨.inr ⟨rfl, rfl, hcp, not_eq hw⟩, rfl⟩) fun hw => ?_
    have hp : pieceB u = true := not_eq' hw
    obtain ⟨cs, rfl, hg⟩ := cp_good hcp
    refine Ok.sImp 1 rfl (vd_pairs (cpC_of hcp)) ?_
    refine ok_seq1 (ok_feN T.ke (ι := Unit) (F := fun _ => rSta A K cs (rDq K u) 0 0 []) (ρ := fun _ => [(a, cOb A.c_Keeper [] [])]) (EvXe.imp (ex_call1 (ι := Addr × Addr × Addr × Addr) (F := fun x => rAt x.1) (rc := fun x => owSta A K cs (rDq K u) 0 0 [] x.1 x.2.1 x.2.2.1 x.2.2.2) (rest := fun _ => [(a, cOb A.c_Keeper [] [])]) (EvX.at (EvX.re (fun x => x) (EvX.of (ρ := fun x : Addr × Addr × Addr × Addr => [(x.2.2.2, cDk []), (x.2.2.1, cDk []), (x.2.1, cDk []), (x.1, cOb A.c_State nsState [rTq (pairsP K (csP cs)), rDq K u, rInt 0, rInt 0, rAt x.2.1, rAt x.2.2.1, rAt x.2.2.2, rNon]), (a, cOb A.c_Keeper [] [])]) (ex_make (rc := []) (rest := [(a, cOb A.c_Keeper [] [])]) (ea_cons (ev_var rfl) (ea_cons (ev_var rfl) ea_nil)) (fun x => ⟨x, _, _, rfl, rfl, rfl⟩) (fun x P r' h => h.1)) ?of) fun x => ⟨fun G v h => h, ?perm⟩)) (fun x => rfl) (fun x => ⟨x.1, x.2.1, x.2.2.1, x.2.2.2, cs, rDq K u, 0, 0, [], [], rfl, hg.ok, rfl, rfl⟩)) ?laid) (fun _ => []) (fun _ => []) (fun _ => ev_var rfl) fun _ => ⟨rfl, rfl⟩) ?_
    case of =>
      rintro P r' ⟨x, r1, rfl, ⟨_, d1, d2, d3, rfl⟩, rfl⟩
      exact ⟨(x, d1, d2, d3), rfl, rfl⟩
    case perm =>
      exact rs_pick [3, 2, 1, 0, 4] rfl (by decide) rfl
    case laid =>
      rintro P r' ⟨x, r1, ⟨rfl, rfl⟩, rfl⟩
      exact ⟨(), rfl, rfl⟩
    refine ok_seq1 (ok_fN T.ke [] ev_int (ev_var rfl) ⟨rfl, rfl⟩) ?_
    refine ok_seq1 (ok_fN T.ke [] ev_int (ev_var rfl) ⟨rfl, rfl⟩) ?_
    exact ok_fN T.ke [] ev_int (ev_var rfl) ⟨rfl, hcp, hp, cs.map dPr, rfl, by rw [csD_dPr]; exact hg, by rw [csD_dPr]; rfl⟩
abbrev s_Keeper_copies : Stmt := inClass (top 93) 2
abbrev N_Keeper_copies : List Str := ["self"]
theorem sc_Keeper_copies : FnScope N_Keeper_copies ["self"] (defScope s_Keeper_copies) := ⟨rfl, rfl, rfl, by decide +kernel, rfl, by decide +kernel, by decide +kernel⟩
theorem ok_Keeper_copies (T : TxK K mg A) (T2 : TxE P K mg A)   {f : Addr} {fd : FuncData} (F : FunD K "copies" "Keeper.copies" (defArgs s_Keeper_copies) (defBody s_Keeper_copies) (defScope s_Keeper_copies) [] [] f fd) : FnOk P w K mg base CX0 1 f fd ["self"] (spM (S_Kget A K fun cs Pp t n k1 P => P = rTq (pairsP K (csP cs)))) := by
  refine F.ok sc_Keeper_copies (fun vs H Q E h => len_M h (fun Ps r Φ hT => by first | (obtain ⟨_, rfl, _⟩ := hT; rfl) | (obtain ⟨_, _, rfl, _⟩ := hT; rfl) | (obtain ⟨_, _, _, rfl, _⟩ := hT; rfl) | (obtain ⟨_, _, _, _, rfl, _⟩ := hT; rfl) | (obtain ⟨_, _, _, _, _, rfl, _⟩ := hT; rfl) | (obtain ⟨_, _, _, _, _, _, rfl, _⟩ := hT; rfl) | (obtain ⟨_, _, _, _, _, _, _, rfl, _⟩ := hT; rfl) | (obtain ⟨_, _, _, _, _, _, _, _, rfl, _⟩ := hT; rfl) | (obtain ⟨rfl, _⟩ := hT; rfl))) (fun cdv A0 outer s H vs Q E hr h => ?_)
  · have nd := sc_Keeper_copies.nd
    have hu := hu_of hr
    refine ⟨_, PSs.nox (pss_one (ps_ret (pe_fld (pe_fld (pv 0) rfl) rfl))), ?_⟩
    refine run_M h fun Ps r Φ hT e => ?_
    obtain ⟨a, cs, Pp, t, n, k1, P0, rfl, rfl, rfl, rfl⟩ := hT
    exact ok_ret (ev_f T.st 0 (ev_fO T.ke 0 (ev_var rfl) List.mem_cons_self)) ⟨rfl, rfl⟩
abbrev s_Keeper_piece : Stmt := inClass (top 93) 3
abbrev N_Keeper_piece : List Str := ["self"]
theorem sc_Keeper_piece : FnScope N_Keeper_piece ["self"] (defScope s_Keeper_piece) := ⟨rfl, rfl, rfl, by decide +kernel, rfl, by decide +kernel, by decide +kernel⟩
theorem ok_Keeper_piece (T : TxK K mg A) (T2 : TxE P K mg A)   {f : Addr} {fd : FuncData} (F : FunD K "piece" "Keeper.piece" (defArgs s_Keeper_piece) (defBody s_Keeper_piece) (defScope s_Keeper_piece) [] [] f fd) : FnOk P w K mg base CX0 1 f fd ["self"] (spM (S_Kget A K fun cs Pp t n k1 P => P = Pp)) := by
  refine F.ok sc_Keeper_piece (fun vs H Q E h => len_M h (fun Ps r Φ hT => by first | (obtain ⟨_, rfl, _⟩ := hT; rfl) | (obtain ⟨_, _, rfl, _⟩ := hT; rfl) | (obtain ⟨_, _, _, rfl, _⟩ := hT; rfl) | (obtain ⟨_, _, _, _, rfl, _⟩ := hT; rfl) | (obtain ⟨_, _, _, _, _, rfl, _⟩ := hT; rfl) | (obtain ⟨_, _, _, _, _, _, rfl, _⟩ := hT; rfl) | (obtain ⟨_, _, _, _, _, _, _, rfl, _⟩ := hT; rfl) | (obtain ⟨_, _, _, _, _, _, _, _, rfl, _⟩ := hT; rfl) | (obtain ⟨rfl, _⟩ := hT; rfl))) (fun cdv A0 outer s H vs Q E hr h => ?_)
  · have nd := sc_Keeper_piece.nd
    have hu := hu_of hr
    refine ⟨_, PSs.nox (pss_one (ps_ret (pe_fld (pe_fld (pv 0) rfl) rfl))), ?_⟩
    refine run_M h fun Ps r Φ hT e => ?_
    obtain ⟨a, cs, Pp, t, n, k1, P0, rfl, rfl, rfl, rfl⟩ := hT
    exact ok_ret (ev_f T.st 1 (ev_fO T.ke 0 (ev_var rfl) List.mem_cons_self)) ⟨rfl, rfl⟩
abbrev s_Keeper_now : Stmt := inClass (top 93) 4
abbrev N_Keeper_now : List Str := ["self"]
theorem sc_Keeper_now : FnScope N_Keeper_now ["self"] (defScope s_Keeper_now) := ⟨rfl, rfl, rfl, by decide +kernel, rfl, by decide +kernel, by decide +kernel⟩
theorem ok_Keeper_now (T : TxK K mg A) (T2 : TxE P K mg A)   {f : Addr} {fd : FuncData} (F : FunD K "now" "Keeper.now" (defArgs s_Keeper_now) (defBody s_Keeper_now) (defScope s_Keeper_now) [] [] f fd) : FnOk P w K mg base CX0 1 f fd ["self"] (spM (S_Kget A K fun cs Pp t n k1 P => P = rInt t)) := by
  refine F.ok sc_Keeper_now (fun vs H Q E h => len_M h (fun Ps r Φ hT => by first | (obtain ⟨_, rfl, _⟩ := hT; rfl) | (obtain ⟨_, _, rfl, _⟩ := hT; rfl) | (obtain ⟨_, _, _, rfl, _⟩ := hT; rfl) | (obtain ⟨_, _, _, _, rfl, _⟩ := hT; rfl) | (obtain ⟨_, _, _, _, _, rfl, _⟩ := hT; rfl) | (obtain ⟨_, _, _, _, _, _, rfl, _⟩ := hT; rfl) | (obtain ⟨_, _, _, _, _, _, _, rfl, _⟩ := hT; rfl) | (obtain ⟨_, _, _, _, _, _, _, _, rfl, _⟩ := hT; rfl) | (obtain ⟨rfl, _⟩ := hT; rfl))) (fun cdv A0 outer s H vs Q E hr h => ?_)
  · have nd := sc_Keeper_now.nd
    have hu := hu_of hr
    refine ⟨_, PSs.nox (pss_one (ps_ret (pe_fld (pe_fld (pv 0) rfl) rfl))), ?_⟩
    refine run_M h fun Ps r Φ hT e => ?_
    obtain ⟨a, cs, Pp, t, n, k1, P0, rfl, rfl, rfl, rfl⟩ := hT
    exact ok_ret (ev_f T.st 2 (ev_fO T.ke 0 (ev_var rfl) List.mem_cons_self)) ⟨rfl, rfl⟩
abbrev s_Keeper_open_asks : Stmt := inClass (top 93) 5
abbrev N_Keeper_open_asks : List Str := ["self"]
theorem sc_Keeper_open_asks : FnScope N_Keeper_open_asks ["self"] (defScope s_Keeper_open_asks) := ⟨rfl, rfl, rfl, by decide +kernel, rfl, by decide +kernel, by decide +kernel⟩
theorem ok_Keeper_open_asks (T : TxK K mg A) (T2 : TxE P K mg A)   {f : Addr} {fd : FuncData} (F : FunD K "open_asks" "Keeper.open_asks" (defArgs s_Keeper_open_asks) (defBody s_Keeper_open_asks) (defScope s_Keeper_open_asks) [] [] f fd) : FnOk P w K mg base CX0 1 f fd ["self"] (spM (S_Kget A K fun cs Pp t n k1 P => ∃ op : List Int, k1.map (·.1) = op.map Sum.inl ∧ op.Pairwise (· ≤ ·) ∧ P = rTs K (op.map rInt))) := by
  refine F.ok sc_Keeper_open_asks (fun vs H Q E h => len_M h (fun Ps r Φ hT => by first | (obtain ⟨_, rfl, _⟩ := hT; rfl) | (obtain ⟨_, _, rfl, _⟩ := hT; rfl) | (obtain ⟨_, _, _, rfl, _⟩ := hT; rfl) | (obtain ⟨_, _, _, _, rfl, _⟩ := hT; rfl) | (obtain ⟨_, _, _, _, _, rfl, _⟩ := hT; rfl) | (obtain ⟨_, _, _, _, _, _, rfl, _⟩ := hT; rfl) | (obtain ⟨_, _, _, _, _, _, _, rfl, _⟩ := hT; rfl) | (obtain ⟨_, _, _, _, _, _, _, _, rfl, _⟩ := hT; rfl) | (obtain ⟨rfl, _⟩ := hT; rfl))) (fun cdv A0 outer s H vs Q E hr h => ?_)
  · have nd := sc_Keeper_open_asks.nd
    have hu := hu_of hr
    refine ⟨_, PSs.nox (pss_one (ps_ret (pe_tupleOf (by rfl) T.n_tuple (pe_callB (id := "sorted") cr_sortedI (by rfl) T.n_sorted (by decide +kernel) (pa_cons (pe_callTy (call_listD rfl) (by rfl) T.n_list (by decide +kernel) (pa_cons (pe_fld (pe_fld (pv 0) rfl) rfl) pa_nil)) pa_nil))))), ?_⟩
    refine run_M h fun Ps r Φ hT e => ?_
    obtain ⟨a, cs, Pp, t, n, k1, P0, rfl, ⟨op, h1, h2, rfl⟩, rfl, rfl⟩ := hT
    have e1 : (k1.map fun kv => rV (kV kv.1)) = op.map rInt := by
      rw [show (k1.map fun kv => rV (kV kv.1)) = (k1.map (·.1)).map (fun k => rV (kV k)) from by rw [List.map_map]; rfl, h1, List.map_map]
      rfl
    have e2 : sortI op = op := (sortI_eq (List.Perm.refl _) h2).symm
    exact ok_ret (ev_tupL ((ev_sortedI (ns := op) (ea_cons ((ev_listD (ea_cons (ev_f T.st 4 (ev_fO T.ke 0 (ev_var rfl) List.mem_cons_self)) ea_nil)).to (by rw [e1])) ea_nil)).to (by rw [e2]))) ⟨rfl, rfl⟩
abbrev s_Keeper_answers : Stmt := inClass (top 93) 6
abbrev N_Keeper_answers : List Str := ["self"]
theorem sc_Keeper_answers : FnScope N_Keeper_answers ["self"] (defScope s_Keeper_answers) := ⟨rfl, rfl, rfl, by decide +kernel, rfl, by decide +kernel, by decide +kernel⟩
theorem ok_Keeper_answers (T : TxK K mg A) (T2 : TxE P K mg A)   {f : Addr} {fd : FuncData} (F : FunD K "answers" "Keeper.answers" (defArgs s_Keeper_answers) (defBody s_Keeper_answers) (defScope s_Keeper_answers) [] [] f fd) : FnOk P w K mg base CX0 1 f fd ["self"] (spM (S_Kget A K fun cs Pp t n k1 P => P = rTs K [])) := by
  refine F.ok sc_Keeper_answers (fun vs H Q E h => len_M h (fun Ps r Φ hT => by first | (obtain ⟨_, rfl, _⟩ := hT; rfl) | (obtain ⟨_, _, rfl, _⟩ := hT; rfl) | (obtain ⟨_, _, _, rfl, _⟩ := hT; rfl) | (obtain ⟨_, _, _, _, rfl, _⟩ := hT; rfl) | (obtain ⟨_, _, _, _, _, rfl, _⟩ := hT; rfl) | (obtain ⟨_, _, _, _, _, _, rfl, _⟩ := hT; rfl) | (obtain ⟨_, _, _, _, _, _, _, rfl, _⟩ := hT; rfl) | (obtain ⟨_, _, _, _, _, _, _, _, rfl, _⟩ := hT; rfl) | (obtain ⟨rfl, _⟩ := hT; rfl))) (fun cdv A0 outer s H vs Q E hr h => ?_)
  · have nd := sc_Keeper_answers.nd
    have hu := hu_of hr
    refine ⟨_, PSs.nox (pss_one (ps_ret (pe_tupleOf (by rfl) T.n_tuple (pe_callB (id := "sorted") cr_sortedI (by rfl) T.n_sorted (by decide +kernel) (pa_cons (pe_callTy (call_listD rfl) (by rfl) T.n_list (by decide +kernel) (pa_cons (pe_fld (pe_fld (pv 0) rfl) rfl) pa_nil)) pa_nil))))), ?_⟩
    refine run_M h fun Ps r Φ hT e => ?_
    obtain ⟨a, cs, Pp, t, n, k1, P0, rfl, rfl, rfl, rfl⟩ := hT
    exact ok_ret (ev_tupL (ev_sorted0 (ea_cons (ev_list0 (ea_cons (ev_f T.st 5 (ev_fO T.ke 0 (ev_var rfl) List.mem_cons_self)) ea_nil)) ea_nil))) ⟨rfl, rfl⟩
abbrev s_Keeper_groups : Stmt := inClass (top 93) 7
abbrev N_Keeper_groups : List Str := ["self"]
theorem sc_Keeper_groups : FnScope N_Keeper_groups ["self"] (defScope s_Keeper_groups) := ⟨rfl, rfl, rfl, by decide +kernel, rfl, by decide +kernel, by decide +kernel⟩
theorem ok_Keeper_groups (T : TxK K mg A) (T2 : TxE P K mg A) (D_knowledge_of : CalF P w K mg base CX0 8 "knowledge_of" ["state"] (spM (S_kof A K)))  {f : Addr} {fd : FuncData} (F : FunD K "groups" "Keeper.groups" (defArgs s_Keeper_groups) (defBody s_Keeper_groups) (defScope s_Keeper_groups) [] [] f fd) : FnOk P w K mg base CX0 10 f fd ["self"] (spM (S_Kget A K fun cs Pp t n k1 P => P = rTs K [])) := by
  refine F.ok sc_Keeper_groups (fun vs H Q E h => len_M h (fun Ps r Φ hT => by first | (obtain ⟨_, rfl, _⟩ := hT; rfl) | (obtain ⟨_, _, rfl, _⟩ := hT; rfl) | (obtain ⟨_, _, _, rfl, _⟩ := hT; rfl) | (obtain ⟨_, _, _, _, rfl, _⟩ := hT; rfl) | (obtain ⟨_, _, _, _, _, rfl, _⟩ := hT; rfl) | (obtain ⟨_, _, _, _, _, _, rfl, _⟩ := hT; rfl) | (obtain ⟨_, _, _, _, _, _, _, rfl, _⟩ := hT; rfl) | (obtain ⟨_, _, _, _, _, _, _, _, rfl, _⟩ := hT; rfl) | (obtain ⟨rfl, _⟩ := hT; rfl))) (fun cdv A0 outer s H vs Q E hr h => ?_)
  · have nd := sc_Keeper_groups.nd
    have hu := hu_of hr
    refine ⟨_, PSs.nox (pss_one (ps_ret (pe_fld (pe_fld (pe_cF D_knowledge_of pass0 hr rfl (pa_cons (pe_fld (pv 0) rfl) pa_nil)) rfl) rfl))), ?_⟩
    refine run_M h fun Ps r Φ hT e => ?_
    obtain ⟨a, cs, Pp, t, n, k1, P0, rfl, rfl, rfl, rfl⟩ := hT
    exact ok_ret (ev_f T.sp 8 (ev_f T.kn 1 (EvX.ev (P := rKno A K Pp) (r' := [(a, cKee A K cs Pp t n k1)]) (ex_callK [] [(a, cKee A K cs Pp t n k1)] (ea_cons (ev_fO T.ke 0 (ev_var rfl) List.mem_cons_self) ea_nil) (.inr ⟨_, Pp, _, _, _, _, _, rfl, rfl, rfl⟩) fun P r' h => ⟨h.1, by rw [h.2]; rfl⟩) fun P' r'' h => h))) ⟨rfl, rfl⟩
abbrev s_law_any : Stmt := top 97
abbrev N_law_any : List Str := ["_law_pot_here", "_law_items"]
theorem sc_law_any : FnScope N_law_any ["_law_pot_here", "_law_items"] (defScope s_law_any) := ⟨rfl, rfl, rfl, by decide +kernel, rfl, by decide +kernel, by decide +kernel⟩
theorem ok_law_any (T : TxK K mg A) (T2 : TxE P K mg A) (D_law_draw : CalF P w K mg base CX0 1 "_law_draw" ["_law_pot_here", "_law_many"] (spM S_draw))  {f : Addr} {fd : FuncData} (F : FunD K "_law_any" "_law_any" (defArgs s_law_any) (defBody s_law_any) (defScope s_law_any) [] [] f fd) : FnOk P w K mg base CX0 2 f fd ["_law_pot_here", "_law_items"] (spM (S_any K)) := by
  refine F.ok sc_law_any (fun vs H Q E h => len_M h (fun Ps r Φ hT => by first | (obtain ⟨_, rfl, _⟩ := hT; rfl) | (obtain ⟨_, _, rfl, _⟩ := hT; rfl) | (obtain ⟨_, _, _, rfl, _⟩ := hT; rfl) | (obtain ⟨_, _, _, _, rfl, _⟩ := hT; rfl) | (obtain ⟨_, _, _, _, _, rfl, _⟩ := hT; rfl) | (obtain ⟨_, _, _, _, _, _, rfl, _⟩ := hT; rfl) | (obtain ⟨_, _, _, _, _, _, _, rfl, _⟩ := hT; rfl) | (obtain ⟨_, _, _, _, _, _, _, _, rfl, _⟩ := hT; rfl) | (obtain ⟨rfl, _⟩ := hT; rfl))) (fun cdv A0 outer s H vs Q E hr h => ?_)
  · have nd := sc_law_any.nd
    have hu := hu_of hr
    refine ⟨_, PSs.nox (pss_one (ps_ret (pe_ix (r := rIxA K) (ix_or ix_list ix_str) (pv 1) (pe_cF D_law_draw pass0 hr rfl (pa_cons (pv 0) (pa_cons (pe_callB (id := "len") call_len (by rfl) T.n_len (by decide +kernel) (pa_cons (pv 1) pa_nil)) pa_nil))) (fun _ _ => rfl)))), ?_⟩
    refine run_M h fun Ps r Φ hT e => ?_
    obtain ⟨p, P2, B, rfl, rfl, hB, hh⟩ := hT
    rcases hh with ⟨Qs, rfl, h1, h2, rfl⟩ | ⟨z, rfl, h1, h2, rfl⟩
    · refine ok_retK (ex_op2 (ex_of (ev_var rfl) (ex_callK [(p, cPot B)] [] (ea_cons (ev_var rfl) (ea_cons (ev_lenL (ea_cons (ev_var rfl) ea_nil)) ea_nil)) ⟨p, _, B, rfl, rfl, by omega, by omega, hB, rfl⟩ ?_)))
      rintro P r' ⟨d, rfl, ⟨d0, d1⟩, rfl⟩
      have hd : d.toNat < Qs.length := by omega
      exact ⟨Qs[d.toNat], rv_ixA d0 (List.getElem?_eq_getElem hd), List.getElem_mem hd, rfl⟩
    · have hl : z.cps.toList.length = z.length := by simp [Str.length]
      have hz : z.length ≤ sizeLine := Nat.le_trans (Nat.le_of_lt h2) (by decide)
      refine ok_retK (ex_op2 (ex_of (ev_var rfl) (ex_callK [(p, cPot B)] [] (ea_cons (ev_var rfl) (ea_cons (ev_lenS (ea_cons (ev_var rfl) ea_nil) hz) ea_nil)) ⟨p, _, B, rfl, rfl, by omega, by omega, hB, rfl⟩ ?_)))
      rintro P r' ⟨d, rfl, ⟨d0, d1⟩, rfl⟩
      have hd : d.toNat < z.cps.toList.length := by omega
      exact ⟨rStr ⟨#[z.cps.toList[d.toNat]]⟩, rv_ixAS d0 hz (List.getElem?_eq_getElem hd), ⟨_, List.getElem_mem hd, rfl⟩, rfl⟩
abbrev s_law_words : Stmt := top 98
abbrev N_law_words : List Str := ["_law_pot_here", "_law_many", "_law_small", "_law_stem", "_law_turn", "_law_spot", "_law_first", "_law_k"]
theorem sc_law_words : FnScope N_law_words ["_law_pot_here", "_law_many"] (defScope s_law_words) := ⟨rfl, rfl, rfl, by decide +kernel, rfl, by decide +kernel, by decide +kernel⟩
theorem ok_law_words (T : TxK K mg A) (T2 : TxE P K mg A) (D_law_draw : CalF P w K mg base CX0 1 "_law_draw" ["_law_pot_here", "_law_many"] (spM S_draw)) (D_law_any : CalF P w K mg base CX0 2 "_law_any" ["_law_pot_here", "_law_items"] (spM (S_any K)))  {f : Addr} {fd : FuncData} (F : FunD K "_law_words" "_law_words" (defArgs s_law_words) (defBody s_law_words) (defScope s_law_words) [] [] f fd) : FnOk P w K mg base CX0 3 f fd ["_law_pot_here", "_law_many"] (spM S_words) := by
  refine F.ok sc_law_words (fun vs H Q E h => len_M h (fun Ps r Φ hT => by first | (obtain ⟨_, rfl, _⟩ := hT; rfl) | (obtain ⟨_, _, rfl, _⟩ := hT; rfl) | (obtain ⟨_, _, _, rfl, _⟩ := hT; rfl) | (obtain ⟨_, _, _, _, rfl, _⟩ := hT; rfl) | (obtain ⟨_, _, _, _, _, rfl, _⟩ := hT; rfl) | (obtain ⟨_, _, _, _, _, _, rfl, _⟩ := hT; rfl) | (obtain ⟨_, _, _, _, _, _, _, rfl, _⟩ := hT; rfl) | (obtain ⟨_, _, _, _, _, _, _, _, rfl, _⟩ := hT; rfl) | (obtain ⟨rfl, _⟩ := hT; rfl))) (fun cdv A0 outer s H vs Q E hr h => ?_)
  · have nd := sc_law_words.nd
    have hu := hu_of hr
    refine ⟨_, PSs.nox (pss_cons (ps_set (i := 2) nd rfl (by first | exact Or.inl rfl | exact Or.inr rfl) pe_str)
      (pss_cons (ps_set (i := 3) nd rfl (by first | exact Or.inl rfl | exact Or.inr rfl) (pe_join pe_str (pe_lc (own := [("_law_turn", 4)]) (g := (gName 4)) (tt := tYes) rfl nd (pi_range1 rfl T.n_range (pa_cons (pe_cF D_law_draw pass0 hr rfl (pa_cons (pv 0) (pa_cons pe_int pa_nil))) pa_nil)) (blkOk_by (N := N_law_words) (sc := defScope s_law_words) (own := [("_law_turn", 4)]) (by decide +kernel)) (fun _ _ _ _ _ => (pg_name (i := 4) nd rfl (by first | exact Or.inl rfl | exact Or.inr rfl))) (fun _ _ _ _ _ => pts_nil) (fun _ _ _ _ _ => (pe_cF D_law_any pass0 hr rfl (pa_cons (pv 0) (pa_cons (pv 2) pa_nil)))))))
      (pss_cons (ps_asg (pe_tup (pa_cons (pe_cF D_law_draw pass0 hr rfl (pa_cons (pv 0) (pa_cons (pe_op op_add (pe_callB (id := "len") call_len (by rfl) T.n_len (by decide +kernel) (pa_cons (pv 3) pa_nil)) pe_int) pa_nil))) (pa_cons (pe_cF D_law_draw pass0 hr rfl (pa_cons (pv 0) (pa_cons pe_int pa_nil))) pa_nil))) (pg_tup rfl (pgs_cons (pg_name (i := 5) nd rfl (by first | exact Or.inl rfl | exact Or.inr rfl)) (pgs_cons (pg_name (i := 6) nd rfl (by first | exact Or.inl rfl | exact Or.inr rfl)) pgs_nil))))
      (pss_one (ps_ret (pe_lc (own := [("_law_k", 7)]) (g := (gName 7)) (tt := tYes) rfl nd (pi_range1 rfl T.n_range (pa_cons (pv 1) pa_nil)) (blkOk_by (N := N_law_words) (sc := defScope s_law_words) (own := [("_law_k", 7)]) (by decide +kernel)) (fun _ _ _ _ _ => (pg_name (i := 7) nd rfl (by first | exact Or.inl rfl | exact Or.inr rfl))) (fun _ _ _ _ _ => pts_nil) (fun _ _ _ _ _ => (pe_op op_add_str (pe_op op_add_str (pe_slice sl_str (pv 3) po_none (po_some (pv 5))) (pe_ix ix_str (pv 2) (pe_op op_modN (pe_callTy call_int1 (by rfl) T.n_int (by decide +kernel) (pa_cons (pe_op op_add (pv 6) (pe_op op_mul pe_int (pv 7))) pa_nil)) pe_int) (fun _ _ => rfl))) (pe_slice sl_str (pv 3) (po_some (pv 5)) po_none))))))))), ?_⟩
    refine run_M h fun Ps r Φ hT e => ?_
    obtain ⟨p, n, B, rfl, rfl, n1, n2, hB, rfl⟩ := hT
    refine ok_asgK (ex_of ev_str ?_)
    refine ok_asgK (ev_join ev_str (ex_lcX (ι := {d : Nat // d < 8}) (L := fun x => (List.range x.1).map fun (i : Nat) => rInt (i : Int)) (ρ := fun _ => [(p, cPot (B + 1))]) (eix_rng (N := fun x : {d : Nat // d < 8} => x.1) (exa_cons (ex_callK [(p, cPot B)] [] (ea_cons (ev_var rfl) (ea_cons ev_int ea_nil)) ⟨p, 8, B, rfl, rfl, by omega, by omega, by omega, rfl⟩ ?dr)))
      (fun x i acc r' => ∃ zs : List Str, acc = zs.map rStr ∧ zs.length = i ∧ (∀ z ∈ zs, ∃ c ∈ small.cps.toList, z = ⟨#[c]⟩) ∧ r' = [(p, cPot (B + 1 + (i : Int)))]) (fun x => ⟨[], rfl, rfl, (fun z hz => absurd hz List.not_mem_nil), by rw [show B + 1 + ((0 : Nat) : Int) = B + 1 from by omega]⟩) ?st ?en))
    case dr =>
      rintro P r' ⟨d, rfl, ⟨d0, d1⟩, rfl⟩
      refine exa_nil ⟨⟨d.toNat, by omega⟩, ?_, ?_, rfl⟩
      · show [rInt d] = [rInt ((d.toNat : Nat) : Int)]
        rw [Int.toNat_of_nonneg d0]
      · show d.toNat ≤ 1000
        omega
    case st =>
      rintro ⟨m, hm⟩ _ i P acc r' hP ⟨zs, rfl, hl, hc, rfl⟩
      have hi : i < m := by
        have := (List.getElem?_eq_some_iff.mp hP).1
        rw [List.length_map, List.length_range] at this
        exact this
      refine ⟨_, _, bg1, all_in, ext_of (b := true) (fun e G H σ m l Q q => q G H m (Same.refl _)) ⟨fun _ => ?_, fun z => by cases z⟩⟩
      refine ex_callK [(p, cPot (B + 1 + (i : Int)))] [] (ea_cons (ev_var rfl) (ea_cons (ev_var rfl) ea_nil)) ⟨p, _, _, rfl, rfl, by omega, .inr ⟨_, rfl, by decide +kernel, by decide +kernel, rfl⟩⟩ ?_
      rintro P r' ⟨⟨c, hc1, rfl⟩, rfl⟩
      refine ⟨zs ++ [⟨#[c]⟩], by rw [List.map_append]; rfl, by rw [List.length_append, hl]; rfl, fun z hz => ?_, ?_⟩
      · rcases List.mem_append.mp hz with hz | hz
        · exact hc z hz
        · exact ⟨c, hc1, List.mem_singleton.mp hz⟩
      · rw [show B + 1 + (i : Int) + 1 = B + 1 + ((i + 1 : Nat) : Int) from by omega]
        rfl
    case en =>
      rintro ⟨m, hm⟩ acc r' ⟨zs, rfl, hl, hc, rfl⟩
      rw [List.length_map, List.length_range] at hl ⊢
      have hl : zs.length = m := hl
      have sl : ∀ zs : List Str, (∀ z ∈ zs, ∃ c ∈ small.cps.toList, z = (⟨#[c]⟩ : Str)) → (zs.map (·.length)).sum = zs.length := fun zs h => by
        induction zs with
        | nil => rfl
        | cons z zs ih =>
          obtain ⟨c, _, e⟩ := h z List.mem_cons_self
          rw [List.map_cons, List.sum_cons, ih fun y hy => h y (List.mem_cons_of_mem _ hy), List.length_cons, e]
          show 1 + _ = _
          omega
      refine ⟨zs, rfl, by rw [sl zs hc, show (Str.ofString "").length = 0 from rfl]; omega, ?_⟩
      have hst : ∀ c ∈ (Txt.join ("" : Str) zs).cps.toList, c ∈ small.cps.toList := fun c h => by
        rw [join_nil] at h
        obtain ⟨l, hl1, hl2⟩ := List.mem_flatten.mp h
        obtain ⟨z, hz, rfl⟩ := List.mem_map.mp hl1
        obtain ⟨c', h', rfl⟩ := hc z hz
        have : c = c' := by simpa using hl2
        rw [this]; exact h'
      have hsl : (Txt.join ("" : Str) zs).length ≤ 7 := by
        have e1 : (Txt.join ("" : Str) zs).cps.toList.length = (Txt.join ("" : Str) zs).length := by simp [Str.length]
        rw [← e1, join_nil, List.length_flatten, List.map_map]
        have e2 : (zs.map (List.length ∘ fun x : Str => x.cps.toList)).sum = (zs.map (·.length)).sum := by
          rw [show (List.length ∘ fun x : Str => x.cps.toList) = fun x : Str => x.length from funext fun z => by show z.cps.toList.length = z.length; simp [Str.length]]
        rw [e2, sl zs hc]
        omega
      generalize Txt.join (Str.ofString "") zs = stem at *
      have hsz : stem.length ≤ sizeLine := Nat.le_trans hsl (by decide)
      refine ok_asgGK (vs := [5, 6]) (ex_tupK K (exa_cons (ex_callK [(p, cPot (B + 1 + (m : Int)))] [] (ea_cons (ev_var rfl) (ea_cons (ev_add (ev_lenS (ea_cons (ev_var rfl) ea_nil) hsz) ev_int) ea_nil)) ⟨p, _, _, rfl, rfl, by omega, by omega, by omega, rfl⟩ ?_)))
      rintro P r' ⟨d, rfl, ⟨d0, d1⟩, rfl⟩
      refine exa_cons (ex_callK [(p, cPot (B + 1 + (m : Int) + 1))] [] (ea_cons (ev_var rfl) (ea_cons ev_int ea_nil)) ⟨p, _, _, rfl, rfl, by omega, by omega, by omega, rfl⟩ ?_)
      rintro P r' ⟨f, rfl, ⟨f0, f1⟩, rfl⟩
      refine exa_nil ⟨(by decide : 2 ≤ 1000), _, bg2, ?_⟩
      obtain ⟨k, rfl⟩ := Int.eq_ofNat_of_zero_le d0
      have hk : k ≤ stem.length := by omega
      refine ok_retK (EvX.pot (p := p) (C := B + 20) (pre := []) (post := []) (ex_lcMp (R := fun (i : Nat) => rInt (i : Int)) (xs := List.range n) (Ω := fun P r' => P = rLp ((List.range n).map fun i => rStr (wd stem k f i)) ∧ r' = [(p, cPot (B + 1 + (m : Int) + 1 + 1))]) (fun i => rStr (wd stem k f i)) (ei_rngM (ea_cons (ev_var rfl) ea_nil) (Nat.le_trans n2 (by decide))) (fun _ i hi => ⟨_, _, bg1, all_in, ?_⟩) ⟨rfl, rfl⟩) ?_)
      · have hi := List.mem_range.mp hi
        have c1 : (cutS stem none (some ((k : Nat) : Int))).length ≤ 7 := by
          have e1 : (cutS stem none (some ((k : Nat) : Int))).cps.toList.length = (cutS stem none (some ((k : Nat) : Int))).length := by simp [Str.length]
          rw [← e1]
          unfold cutS
          simp only [List.length_take, List.length_drop]
          have : stem.cps.toList.length = stem.length := by simp [Str.length]
          omega
        have c2 : (cutS stem (some ((k : Nat) : Int)) none).length ≤ 7 := by
          have e1 : (cutS stem (some ((k : Nat) : Int)) none).cps.toList.length = (cutS stem (some ((k : Nat) : Int)) none).length := by simp [Str.length]
          rw [← e1]
          unfold cutS
          simp only [List.length_take, List.length_drop]
          have : stem.cps.toList.length = stem.length := by simp [Str.length]
          omega
        have c3 : ∀ c : Nat, (⟨#[c]⟩ : Str).length = 1 := fun _ => rfl
        have c4 : (cutS stem none (some ((k : Nat) : Int)) ++ (⟨#[smC ((f + 3 * (i : Int)).fmod 26)]⟩ : Str)).length ≤ 8 := by
          have e1 : (cutS stem none (some ((k : Nat) : Int)) ++ (⟨#[smC ((f + 3 * (i : Int)).fmod 26)]⟩ : Str)).cps.toList.length = (cutS stem none (some ((k : Nat) : Int)) ++ (⟨#[smC ((f + 3 * (i : Int)).fmod 26)]⟩ : Str)).length := by simp [Str.length]
          have e2 : (cutS stem none (some ((k : Nat) : Int))).cps.toList.length = (cutS stem none (some ((k : Nat) : Int))).length := by simp [Str.length]
          rw [← e1, app_list, List.length_append, e2]
          show _ + 1 ≤ 8
          omega
        have sz : sizeLine = 16777216 := sizeLine_eq
        refine ev_catS (ev_catS (ev_slS (ev_var rfl) eo_none (eo_some (ev_var rfl)) hsz) ?_ ?_) (ev_slS (ev_var rfl) (eo_some (ev_var rfl)) eo_none hsz) ?_
        · exact ev_op (ev_var rfl) (ev_modN (ev_int1 (ea_cons (ev_add (ev_var rfl) (ev_mul ev_int (ev_var rfl) (.inl ⟨by decide, by decide⟩))) ea_nil)) ev_int (by decide)) (rv_ixS (fmod26 _).1 (by decide +kernel) (small_at (fmod26 _).1 (fmod26 _).2))
        · rw [c3]; omega
        · omega
      · rintro P r' ⟨rfl, rfl⟩
        exact ⟨_, by omega, rfl, (List.range n).map (wd stem k f), by rw [List.map_map]; rfl, wds_mk hk hsl hst n2, rfl⟩
abbrev s_law_copies : Stmt := top 99
abbrev N_law_copies : List Str := ["_law_pot_here", "_law_most", "_law_words_here", "_law_found", "_law_spot", "_law_word"]
theorem sc_law_copies : FnScope N_law_copies ["_law_pot_here", "_law_most"] (defScope s_law_copies) := ⟨rfl, rfl, rfl, by decide +kernel, rfl, by decide +kernel, by decide +kernel⟩
theorem ok_law_copies (T : TxK K mg A) (T2 : TxE P K mg A) (D_law_words : CalF P w K mg base CX0 3 "_law_words" ["_law_pot_here", "_law_many"] (spM S_words)) (D_law_draw : CalF P w K mg base CX0 1 "_law_draw" ["_law_pot_here", "_law_many"] (spM S_draw))  {f : Addr} {fd : FuncData} (F : FunD K "_law_copies" "_law_copies" (defArgs s_law_copies) (defBody s_law_copies) (defScope s_law_copies) [] [] f fd) : FnOk P w K mg base CX0 4 f fd ["_law_pot_here", "_law_most"] (spM (S_copies7 K)) := by
  refine F.ok sc_law_copies (fun vs H Q E h => len_M h (fun Ps r Φ hT => by first | (obtain ⟨_, rfl, _⟩ := hT; rfl) | (obtain ⟨_, _, rfl, _⟩ := hT; rfl) | (obtain ⟨_, _, _, rfl, _⟩ := hT; rfl) | (obtain ⟨_, _, _, _, rfl, _⟩ := hT; rfl) | (obtain ⟨_, _, _, _, _, rfl, _⟩ := hT; rfl) | (obtain ⟨_, _, _, _, _, _, rfl, _⟩ := hT; rfl) | (obtain ⟨_, _, _, _, _, _, _, rfl, _⟩ := hT; rfl) | (obtain ⟨_, _, _, _, _, _, _, _, rfl, _⟩ := hT; rfl) | (obtain ⟨rfl, _⟩ := hT; rfl))) (fun cdv A0 outer s H vs Q E hr h => ?_)
  · have nd := sc_law_copies.nd
    have hu := hu_of hr
    refine ⟨_, PSs.nox (pss_cons (ps_par (i := 2) (j := 3) (by rfl) nd rfl rfl (by decide) rfl rfl (pa_cons (pe_cF D_law_words pass0 hr rfl (pa_cons (pv 0) (pa_cons (pe_op op_add pe_int (pe_cF D_law_draw pass0 hr rfl (pa_cons (pv 0) (pa_cons (pv 1) pa_nil)))) pa_nil))) (pa_cons (pe_lst pa_nil) pa_nil)) (by rfl))
      (pss_cons (ps_for PassesOwn.never rfl (pi_enum (by rfl) T.n_enumerate (pa_cons (pv 2) pa_nil)) (pg_tup rfl (pgs_cons (pg_name (i := 4) nd rfl (by first | exact Or.inl rfl | exact Or.inr rfl)) (pgs_cons (pg_name (i := 5) nd rfl (by first | exact Or.inl rfl | exact Or.inr rfl)) pgs_nil))) (pss_one (ps_expr (pe_bm PySem.F.plainAttrs_list PySem.F.slot_list_append PySem.F.type_list_append mt_append (pv 3) (pa_cons (pe_tup (pa_cons (pv 5) (pa_cons (pe_ifExp (PW.pt (pw_or (pt_cmpR op_eq (pv 4) pe_int (nomark _)) (pw_or1 (pt_cmpR op_eq (pe_cF D_law_draw pass0 hr rfl (pa_cons (pv 0) (pa_cons pe_int pa_nil))) pe_int (nomark _))))) pe_non (pe_ix (r := rIxL K) ix_list (pv 2) (pe_cF D_law_draw pass0 hr rfl (pa_cons (pv 0) (pa_cons (pv 4) pa_nil))) (fun _ _ => rfl))) pa_nil))) pa_nil)))))
      (pss_one (ps_ret (pe_tupQ (by rfl) T.n_tuple (pe_callB (id := "sorted") cr_sortedTx (by rfl) T.n_sorted (by decide +kernel) (pa_cons (pv 3) pa_nil))))))), ?_⟩
    refine run_M h fun Ps r Φ hT e => ?_
    obtain ⟨p, n, B, rfl, rfl, n1, n2, hB, rfl⟩ := hT
    refine ok_parK (exa_cons (ex_callA (exa_cons1 (ev_var rfl) (exa_cons (ex_op2 (ex_of ev_int (ex_callK [(p, cPot B)] [] (ea_cons (ev_var rfl) (ea_cons (ev_var rfl) ea_nil)) ⟨p, _, B, rfl, rfl, by omega, by omega, by omega, rfl⟩ ?dr)))))))
    rintro P r' ⟨d, rfl, ⟨d0, d1⟩, rfl⟩
    obtain ⟨k, rfl⟩ := Int.eq_ofNat_of_zero_le d0
    refine ⟨rInt (1 + (k : Int)), rv_add, exa_nil ⟨[(p, cPot (B + 1))], [], _, List.Perm.refl _, ⟨p, 1 + k, B + 1, by rw [show ((1 + k : Nat) : Int) = 1 + (k : Int) from by omega], rfl, by omega, by omega, by omega, rfl⟩, ?_⟩⟩
    rintro P r' ⟨ws, rfl, W, rfl⟩
    refine exa_cons ((ex_newL).imp fun P r1 ⟨f, e1, e2⟩ => ?_)
    subst e1 e2
    refine exa_nil ⟨_, _, rfl, ?_⟩
    have lw := W.len
    have k6 : 1 + k ≤ 7 := by omega
    refine ok_seq (fun s' r' => ∃ (cs0 : Cs) (B' : Int), Lo [some (rAt p), none, some (rLp (ws.map rStr)), some (rAt f), none, none] s' ∧ r' = [(f, cLs (cs0.map rPq)), (p, cPot B')] ∧ B' ≤ B + 40 ∧ Drawn cs0 ws) (ok_forM (R := fun x : Str × Nat => rTs K [rInt (x.2 : Int), rStr x.1]) (xs := ws.zipIdx) (fun pre s' r' => ∃ (cs0 : Cs) (B' : Int), Lo [some (rAt p), none, some (rLp (ws.map rStr)), some (rAt f), none, none] s' ∧ r' = [(f, cLs (cs0.map rPq)), (p, cPot B')] ∧ B' ≤ B + 21 + 2 * (pre.length : Int) ∧ cs0.map (·.1) = pre.map (·.1) ∧ (∀ (i : Nat) (c : Str × Option Str), cs0[i]? = some c → c.2 = none ∨ ∃ j, j < i ∧ c.2 = ws[j]?)) (ei_enumM (ea_cons (ev_lp (ev_var rfl)) ea_nil)) ⟨[], B + 1 + 20, .keep (.skip (.keep (.keep (.skip (.skip .nil))))), rfl, by rw [List.length_nil]; omega, rfl, fun i c h => by simp at h⟩ ?step ?done) ?ret
    case step =>
      rintro _ pre ⟨w, i⟩ suf hx s' r' ⟨cs0, B', hl, rfl, hB', h1, h2⟩
      have e0 : ws.zipIdx[pre.length]? = some (w, i) := by rw [hx, List.getElem?_append_right (Nat.le_refl _), Nat.sub_self]; rfl
      rw [List.getElem?_zipIdx] at e0
      obtain ⟨w', e1, e2⟩ := Option.map_eq_some_iff.mp e0
      have ew : w' = w := (Prod.mk.inj e2).1
      have ei : i = pre.length := by have := (Prod.mk.inj e2).2; omega
      subst ew
      have li : i < ws.length := by rw [ei]; exact (List.getElem?_eq_some_iff.mp e1).1
      have lc : cs0.length = i := by rw [ei, ← List.length_map (f := (·.1)) (as := pre), ← h1, List.length_map]
      refine ⟨_, _, bg2, ?_⟩
      refine Ok.lo (s' := ([some (rAt p), none, some (rLp (ws.map rStr)), some (rAt f), some (rInt (i : Int)), some (rStr w')] : Sls)) ?_ (Lo.set 5 (Lo.set 4 hl))
      let Om : Pr → Rs → Prop := fun P r2 => ∃ (o : Option Str) (B2 : Int), P = rOpt rStr o ∧ r2.Perm [(f, cLs (cs0.map rPq)), (p, cPot B2)] ∧ (o = none ∨ ∃ j, j < i ∧ o = ws[j]?) ∧ B2 ≤ B' + 2
      refine ok_appK (ev_var rfl) List.mem_cons_self (ex_tupP (exa_cons1 (ev_var rfl) (exa_cons (EvX.permK (Φ := Om) ?h ?k))))
      case k =>
        rintro P r2 ⟨o, B2, rfl, pm, ho, hB2⟩
        refine ⟨_, pm, exa_nil ⟨(by decide : 2 ≤ 1000), [], [(p, cPot B2)], rfl, by rw [List.length_map, lc]; exact Nat.lt_of_lt_of_le (by omega : i < 7) (by decide), cs0 ++ [(w', o)], B2, .keep (.skip (.keep (.keep (.skip (.skip .nil))))), by rw [List.map_append]; rfl, by rw [List.length_append]; simp; omega, by rw [List.map_append, List.map_append, h1]; rfl, fun j c hc => ?_⟩⟩
        by_cases hj : j < cs0.length
        · rw [List.getElem?_append_left hj] at hc
          exact h2 j c hc
        · rw [List.getElem?_append_right (by omega)] at hc
          have hj2 : j = i := by
            have := (List.getElem?_eq_some_iff.mp hc).1
            simp at this
            omega
          rw [hj2, lc, Nat.sub_self] at hc
          have := Option.some.inj hc
          subst this
          rw [hj2]
          exact ho
      case h =>
        have bB : B' + 2 ≤ 100000 := by
          have : (i : Int) < 7 := by omega
          rw [ei] at this
          omega
        refine ex_ifK (ext_or (ext_test (ex_of (ev_eqI (ev_var rfl) ev_int) ⟨_, rfl, fun _ => ⟨fun _ => ex_of ev_non ⟨none, B', rfl, List.Perm.refl _, .inl rfl, by omega⟩, fun z => (by cases z)⟩, fun hne => ?_⟩)))
        have hi0 : 1 ≤ i := by
          have := of_decide_eq_false hne
          omega
        refine ext_test (ex_op2 (ex_callA (exa_of (ea_cons (ev_var rfl) (ea_cons ev_int ea_nil)) ⟨[(p, cPot B')], [(f, cLs (cs0.map rPq))], _, List.Perm.swap _ _ _, ⟨p, 3, B', rfl, rfl, by omega, by omega, by omega, rfl⟩, ?_⟩)))
        rintro P r' ⟨d, rfl, ⟨d0, d1⟩, rfl⟩
        refine ex_of ev_int ⟨_, rv_eqI, _, rfl, fun _ => ex_of ev_non ⟨none, B' + 1, rfl, List.Perm.swap _ _ _, .inl rfl, by omega⟩, fun _ => ?_⟩
        refine ex_op2 (ex_of (ev_var rfl) (ex_callK [(p, cPot (B' + 1))] [(f, cLs (cs0.map rPq))] (ea_cons (ev_var rfl) (ea_cons (ev_var rfl) ea_nil)) ⟨p, _, _, rfl, rfl, by omega, by omega, by omega, rfl⟩ ?_))
        rintro P r' ⟨d', rfl, ⟨d0', d1'⟩, rfl⟩
        have hd : d'.toNat < ws.length := by omega
        refine ⟨rStr ws[d'.toNat], rv_imp (rv_ixL d0' (P := rStr ws[d'.toNat]) (by rw [List.getElem?_map, List.getElem?_eq_getElem hd]; rfl)) lp_ls (fun _ _ h => h) (fun _ _ h => h), some ws[d'.toNat], B' + 1 + 1, rfl, List.Perm.swap _ _ _, .inr ⟨d'.toNat, by omega, (List.getElem?_eq_getElem hd).symm⟩, by omega⟩
    case done =>
      rintro s' r' ⟨cs0, B', hl, rfl, hB', h1, h2⟩
      rw [List.length_zipIdx] at hB'
      refine ⟨cs0, B', hl, rfl, by omega, ?_, h2⟩
      rw [h1, List.zipIdx_map_fst]
    case ret =>
      rintro s' r' ⟨cs0, B', hl, rfl, hB', D⟩
      refine Ok.lo (Ok.pot (pre := [(f, cLs (cs0.map rPq))]) (post := []) hB' ?_) hl
      have nd0 : (cs0.map (·.1)).Nodup := by rw [D.fst]; exact W.nd
      refine ok_retK (ex_tupQ (EvX.impP (ex_sortedTx (Ω := fun P r1 => ∃ cs : Cs, P = rLs K (cs.map rPq) ∧ CsRow cs ∧ r1 = [(p, cPot (B + 40))]) (exa_cons1 (ev_frL (K := K) (pre := []) (post := [_]) (ev_var rfl)) (exa_nil ⟨cs0, rfl, nd0, fun cs pm so => ⟨cs, rfl, row_of W D (by omega) k6 pm, rfl⟩⟩))) ?_))
      rintro P r1 ⟨cs, rfl, hg, rfl⟩
      exact ⟨rLs K (cs.map (rPair K)), ⟨_, rfl, cs, by rw [pairs_cs], hg, rfl⟩, ls_imp fun _ => pq_pair⟩
abbrev s_law_spoilt : Stmt := top 103
abbrev N_law_spoilt : List Str := ["_law_pot_here", "_law_rows", "_law_way", "_law_spot", "_law_word", "_law_other", "_law_bad", "_law_pair"]
theorem sc_law_spoilt : FnScope N_law_spoilt ["_law_pot_here", "_law_rows"] (defScope s_law_spoilt) := ⟨rfl, rfl, rfl, by decide +kernel, rfl, by decide +kernel, by decide +kernel⟩
theorem ok_law_spoilt (T : TxK K mg A) (T2 : TxE P K mg A) (D_law_draw : CalF P w K mg base CX0 1 "_law_draw" ["_law_pot_here", "_law_many"] (spM S_draw)) (D_law_any : CalF P w K mg base CX0 2 "_law_any" ["_law_pot_here", "_law_items"] (spM (S_any K)))  {f : Addr} {fd : FuncData} (F : FunD K "_law_spoilt" "_law_spoilt" (defArgs s_law_spoilt) (defBody s_law_spoilt) (defScope s_law_spoilt) [] [] f fd) : FnOk P w K mg base CX0 4 f fd ["_law_pot_here", "_law_rows"] (spM (S_spoilt K)) := by
  refine F.ok sc_law_spoilt (fun vs H Q E h => len_M h (fun Ps r Φ hT => by first | (obtain ⟨_, rfl, _⟩ := hT; rfl) | (obtain ⟨_, _, rfl, _⟩ := hT; rfl) | (obtain ⟨_, _, _, rfl, _⟩ := hT; rfl) | (obtain ⟨_, _, _, _, rfl, _⟩ := hT; rfl) | (obtain ⟨_, _, _, _, _, rfl, _⟩ := hT; rfl) | (obtain ⟨_, _, _, _, _, _, rfl, _⟩ := hT; rfl) | (obtain ⟨_, _, _, _, _, _, _, rfl, _⟩ := hT; rfl) | (obtain ⟨_, _, _, _, _, _, _, _, rfl, _⟩ := hT; rfl) | (obtain ⟨rfl, _⟩ := hT; rfl))) (fun cdv A0 outer s H vs Q E hr h => ?_)
  · have nd := sc_law_spoilt.nd
    have hu := hu_of hr
    refine ⟨_, PSs.nox (pss_cons (ps_par (i := 2) (j := 3) (by rfl) nd rfl rfl (by decide) rfl rfl (pa_cons (pe_cF D_law_draw pass0 hr rfl (pa_cons (pv 0) (pa_cons pe_int pa_nil))) (pa_cons (pe_cF D_law_draw pass0 hr rfl (pa_cons (pv 0) (pa_cons (pe_callB (id := "len") call_len (by rfl) T.n_len (by decide +kernel) (pa_cons (pv 1) pa_nil)) pa_nil))) pa_nil)) (by rfl))
      (pss_cons (ps_asg (pe_ix (r := rIxT K) ix_tup (pv 1) (pv 3) (fun _ _ => rfl)) (pg_tup rfl (pgs_cons (pg_name (i := 4) nd rfl (by first | exact Or.inl rfl | exact Or.inr rfl)) (pgs_cons (pg_name (i := 5) nd rfl (by first | exact Or.inl rfl | exact Or.inr rfl)) pgs_nil))))
      (pss_cons (ps_set (i := 6) nd rfl (by first | exact Or.inl rfl | exact Or.inr rfl) (pe_cF D_law_any pass0 hr rfl (pa_cons (pv 0) (pa_cons (pe_lst (pa_cons pe_str (pa_cons pe_str (pa_cons pe_str (pa_cons pe_str (pa_cons pe_str (pa_cons pe_non (pa_cons pe_int (pa_cons (pe_tup (pa_cons pe_str pa_nil)) (pa_cons pe_bl (pa_cons pe_str pa_nil))))))))))) pa_nil))))
      (pss_cons (ps_if (pt_cmpR op_lt (pv 2) pe_int (nomark _)) (pss_one (ps_ret (pv 1))) pss_nil)
      (pss_cons (ps_if (pt_cmpR op_eq (pv 2) pe_int (nomark _)) (pss_one (ps_ret (FP.pe_revF (pv 1)))) pss_nil)
      (pss_cons (ps_if (pt_cmpR op_eq (pv 2) pe_int (nomark _)) (pss_one (ps_ret (pe_op FP.op_catF (pv 1) (FP.pe_tupF (pa_cons (pe_ix (r := rIxT K) ix_tup (pv 1) (pv 3) (fun _ _ => rfl)) pa_nil))))) pss_nil)
      (pss_cons (ps_if (pt_cmpR op_eq (pv 2) pe_int (nomark _)) (pss_one (ps_ret (pe_op FP.op_catF (pe_op FP.op_catF (pe_slice (r := rSlA K) sl_tupA (pv 1) po_none (po_some (pv 3))) (FP.pe_tupF (pa_cons (pe_tup (pa_cons (pv 6) (pa_cons (pv 5) pa_nil))) pa_nil))) (pe_slice (r := rSlA K) sl_tupA (pv 1) (po_some (pe_op op_add (pv 3) pe_int)) po_none)))) pss_nil)
      (pss_cons (ps_if (pt_cmpR op_eq (pv 2) pe_int (nomark _)) (pss_one (ps_ret (pe_op FP.op_catF (pe_op FP.op_catF (pe_slice (r := rSlA K) sl_tupA (pv 1) po_none (po_some (pv 3))) (FP.pe_tupF (pa_cons (pe_tup (pa_cons (pv 4) (pa_cons (pv 6) pa_nil))) pa_nil))) (pe_slice (r := rSlA K) sl_tupA (pv 1) (po_some (pe_op op_add (pv 3) pe_int)) po_none)))) pss_nil)
      (pss_cons (ps_if (pt_cmpR op_eq (pv 2) pe_int (nomark _)) (pss_cons (ps_set (i := 6) nd rfl (by first | exact Or.inl rfl | exact Or.inr rfl) (pe_tup (pa_cons (pv 4) (pa_cons (pe_cF D_law_any pass0 hr rfl (pa_cons (pv 0) (pa_cons (pe_lc (own := [("_law_pair", 7)]) (g := (gName 7)) (tt := tYes) rfl nd (pi_tup (pv 1)) (blkOk_by (N := N_law_spoilt) (sc := defScope s_law_spoilt) (own := [("_law_pair", 7)]) (by decide +kernel)) (fun _ _ _ _ _ => (pg_name (i := 7) nd rfl (by first | exact Or.inl rfl | exact Or.inr rfl))) (fun _ _ _ _ _ => pts_nil) (fun _ _ _ _ _ => (pe_ix (r := rIxT K) ix_tup (pv 7) pe_int (fun _ _ => rfl)))) pa_nil))) pa_nil))))
      (pss_one (ps_ret (pe_op FP.op_catF (pe_op FP.op_catF (pe_slice (r := rSlA K) sl_tupA (pv 1) po_none (po_some (pv 3))) (FP.pe_tupF (pa_cons (pv 6) pa_nil))) (pe_slice (r := rSlA K) sl_tupA (pv 1) (po_some (pe_op op_add (pv 3) pe_int)) po_none))))) pss_nil)
      (pss_cons (ps_if (pt_cmpR op_eq (pv 2) pe_int (nomark _)) (pss_cons (ps_set (i := 6) nd rfl (by first | exact Or.inl rfl | exact Or.inr rfl) (pe_cF D_law_any pass0 hr rfl (pa_cons (pv 0) (pa_cons (pe_lst (pa_cons (pe_tup (pa_cons (pv 4) pa_nil)) (pa_cons (pe_lst (pa_cons (pv 4) (pa_cons (pv 5) pa_nil))) (pa_cons (pe_tup (pa_cons (pv 4) (pa_cons (pv 5) (pa_cons (pv 5) pa_nil)))) (pa_cons (pv 4) (pa_cons pe_non pa_nil)))))) pa_nil))))
      (pss_one (ps_ret (pe_op FP.op_catF (pe_op FP.op_catF (pe_slice (r := rSlA K) sl_tupA (pv 1) po_none (po_some (pv 3))) (FP.pe_tupF (pa_cons (pv 6) pa_nil))) (pe_slice (r := rSlA K) sl_tupA (pv 1) (po_some (pe_op op_add (pv 3) pe_int)) po_none))))) pss_nil)
      (pss_one (ps_ret (pe_cF D_law_any pass0 hr rfl (pa_cons (pv 0) (pa_cons (pe_lst (pa_cons (pe_callTy call_list_of (by rfl) T.n_list (by decide +kernel) (pa_cons (pv 1) pa_nil)) (pa_cons (pe_tup pa_nil) (pa_cons pe_non (pa_cons pe_str (pa_cons pe_dnewK (pa_cons (pe_callTy (call_dictT rfl) (by rfl) T.n_dict (by decide +kernel) (pa_cons (pv 1) pa_nil)) (pa_cons pe_int (pa_cons (pe_tup (pa_cons (pv 1) pa_nil)) (pa_cons (pe_ix (r := rIxT K) ix_tup (pv 1) (pv 3) (fun _ _ => rfl)) pa_nil)))))))))) pa_nil))))))))))))))), ?_⟩
    refine run_M h fun Ps r Φ hT e => ?_
    obtain ⟨p, cs, B, rfl, hr7, rfl, hB, rfl⟩ := hT
    have ne := hr7.ne
    have z7 := hr7.z
    let ds : List PyData := cs.map dPr
    have ld : ds.length = cs.length := List.length_map _
    have fds : ∀ x ∈ ds, FineN 60 3 x := fun x hx => by
      obtain ⟨c, hc, rfl⟩ := List.mem_map.mp hx
      exact (fine_dPr (hr7.nm c hc) (hr7.fo c hc)).mono (by decide) (by decide)
    have ez : ((cs.map (rPair K)).length : Int) = (cs.length : Int) := by rw [List.length_map]
    have evR : ∀ {s' : Sls} {r' : Rs}, s'[1]? = some (some (rTq (pairsP K (csP cs)))) → Ev s' r' (tVar 1) (rTs K (cs.map (rPair K))) r' := fun {s' r'} h => (ev_tq (ev_var h)).to (by rw [pairs_cs])
    have evD : ∀ {s' : Sls} {r' : Rs}, s'[1]? = some (some (rTq (pairsP K (csP cs)))) → Ev s' r' (tVar 1) (rTq (ds.map (rDq K))) r' := fun {s' r'} h => (ev_var h).imp tq_pairs
    have evDt : ∀ {s' : Sls} {r' : Rs}, s'[1]? = some (some (rTq (pairsP K (csP cs)))) → Ev s' r' (tVar 1) (rTs K (ds.map (rDq K))) r' := fun {s' r'} h => ev_tq (evD h)
    refine ok_parK (exa_cons (ex_callK [(p, cPot B)] [] (ea_cons (ev_var rfl) (ea_cons ev_int ea_nil)) ⟨p, 12, B, rfl, rfl, by decide, by decide, by omega, rfl⟩ ?_))
    rintro P r' ⟨way, rfl, ⟨w0, w1⟩, rfl⟩
    refine exa_cons (ex_callK [(p, cPot (B + 1))] [] (ea_cons (ev_var rfl) (ea_cons (ev_lenT (ea_cons (evR rfl) ea_nil)) ea_nil)) ⟨p, _, B + 1, rfl, rfl, by rw [ez]; omega, by rw [ez]; omega, by omega, rfl⟩ ?_)
    rintro P r' ⟨d, rfl, ⟨d0, d1⟩, rfl⟩
    rw [ez] at d1
    obtain ⟨k, rfl⟩ := Int.eq_ofNat_of_zero_le d0
    have hk : k < cs.length := by omega
    refine exa_nil ⟨_, _, rfl, ?_⟩
    obtain ⟨c, hc⟩ : ∃ c, cs[k]? = some c := ⟨_, List.getElem?_eq_getElem hk⟩
    have hcm : c ∈ cs := List.mem_of_getElem? hc
    have hn1 := hr7.nm c hcm
    have hn2 := hr7.fo c hcm
    have fw : FineN 60 3 (.str c.1) := (fineN_word hn1).mono (by decide) (by decide)
    have fo : FineN 60 3 (oD c.2) := (fineN_oD hn2).mono (by decide) (by decide)
    refine ok_seq1 (ok_asgG (ev_ixT (P := rPair K c) (evR rfl) (ev_var rfl) (Int.natCast_nonneg k) (by rw [Int.toNat_natCast, List.getElem?_map, hc]; rfl)) (bg2 (P := rStr c.1) (Q := rOpt rStr c.2)) ⟨rfl, rfl⟩) ?_
    let bads : List PyData := [.str "", .str "abcdefghi", .str "a1", .str "A", .str "a b", .none, .int 0, .tuple [.str "a"], .bool true, .str "a\n"]
    refine ok_asgK (EvX.imp (ex_callK [(p, cPot (B + 1 + 1))] [] (ea_cons (ev_var rfl) (ea_cons (ev_lp (ev_lstP (Ps := bads.map (rDq K)) (ea_cons ev_cS (ea_cons ev_cS (ea_cons ev_cS (ea_cons ev_cS (ea_cons ev_cS (ea_cons ev_cN (ea_cons ev_cI (ea_cons (ev_tupD (ds := [.str "a"]) (ea_cons ev_cS ea_nil)) (ea_cons ev_cB (ea_cons ev_cS ea_nil)))))))))))) ea_nil)) ⟨p, _, _, rfl, rfl, by omega, .inl ⟨_, rfl, (by show 1 ≤ 10; decide), (by show 10 < 1000; decide), rfl⟩⟩ (Ω := fun P r' => (∃ bad, P = rDq K bad ∧ FineN 20 2 bad) ∧ r' = [(p, cPot (B + 3))]) ?bad) ?_)
    case bad =>
      rintro P r' ⟨hP, rfl⟩
      obtain ⟨bad, hb, rfl⟩ := List.mem_map.mp hP
      refine ⟨⟨bad, rfl, ?_⟩, by rw [show B + 1 + 1 + 1 = B + 3 by omega]; rfl⟩
      simp only [bads, List.mem_cons, List.not_mem_nil, or_false] at hb
      rcases hb with rfl | rfl | rfl | rfl | rfl | rfl | rfl | rfl | rfl | rfl <;> exact fineN_by (by decide +kernel)
    rintro P r' ⟨⟨bad, rfl, fb⟩, rfl⟩
    let S1 : PyData → Sls := fun b => [some (rAt p), some (rTq (pairsP K (csP cs))), some (rInt way), some (rInt (k : Int)), some (rStr c.1), some (rOpt rStr c.2), some (rDq K b), none]
    have ret : ∀ {s : Sls} {r1 r2 : Rs} {te : TE} (d : PyData), Ev s r1 te (rVd K d) r2 → d.weight ≤ 10000 → FineN 2000 10 d → (∃ B', B' ≤ B + 4 ∧ r2 = [(p, cPot B')]) → EvX s r1 te (fun P r' => ∃ d : PyData, P = rVd K d ∧ ShV d ∧ FineN 2000 10 d ∧ r' = [(p, cPot (B + 4))]) := fun {s r1 r2 te} d h hw hf ⟨B', hb, e⟩ => by
      subst e
      exact EvX.pot (p := p) (C := B + 4) (pre := []) (post := []) h.x fun P r' ⟨e1, e2⟩ => ⟨B', hb, e2, d, e1, shV_of hw, hf, rfl⟩
    have retT : ∀ {s : Sls} {r1 r2 : Rs} {te : TE} (es : List PyData), Ev s r1 te (rTq (es.map (rDq K))) r2 → (∀ x ∈ es, FineN 60 3 x) → es.length ≤ 8 → (∃ B', B' ≤ B + 4 ∧ r2 = [(p, cPot B')]) → EvX s r1 te (fun P r' => ∃ d : PyData, P = rVd K d ∧ ShV d ∧ FineN 2000 10 d ∧ r' = [(p, cPot (B + 4))]) := fun {s r1 r2 te} es h hf hl hb => by
      have f := fine_items hf hl
      exact ret (.tuple es) (h.imp tq_vd) (Nat.le_trans f.w (by decide)) f hb
    have b3 : ∃ B', B' ≤ B + 4 ∧ ([(p, cPot (B + 3))] : Rs) = [(p, cPot B')] := ⟨B + 3, by omega, rfl⟩
    -- one item put in the place of another
    have mid : ∀ (y : PyData), FineN 60 3 y → (∀ x ∈ ds.take k ++ [y] ++ ds.drop (k + 1), FineN 60 3 x) ∧ (ds.take k ++ [y] ++ ds.drop (k + 1)).length ≤ 8 := fun y hy => by
      refine ⟨fun x hx => ?_, ?_⟩
      · rcases List.mem_append.mp hx with hx | hx
        · rcases List.mem_append.mp hx with hx | hx
          · exact fds x (List.mem_of_mem_take hx)
          · rw [List.mem_singleton.mp hx]; exact hy
        · exact fds x (List.mem_of_mem_drop hx)
      · rw [List.length_append, List.length_append, List.length_take, List.length_drop, ld, List.length_singleton]; omega
    have evM : ∀ {s : Sls} {B' : Int} {tm : TA} (y : PyData), s[1]? = some (some (rTq (pairsP K (csP cs)))) → s[3]? = some (some (rInt (k : Int))) → EvA s [(p, cPot B')] tm [rDq K y] [(p, cPot B')] →
        Ev s [(p, cPot B')] (tOp (FP.rCatF K) (tOp (FP.rCatF K) (tSl (rSlA K) (tVar 1) tNoPart (tPart (tVar 3))) (FP.tTupF tm)) (tSl (rSlA K) (tVar 1) (tPart (tOp (rI0 fun i j => .int (i + j)) (tVar 3) (tC (.int 1)))) tNoPart)) (rTq ((ds.take k ++ [y] ++ ds.drop (k + 1)).map (rDq K))) [(p, cPot B')] := fun {s B' tm} y h1 h3 hm => by
      have lz : sizeLine = 16777216 := sizeLine_eq
      have l1 : ((ds.map (rDq K)).take k).length ≤ 8 := by rw [List.length_take, List.length_map, ld]; omega
      have l2 : ((ds.map (rDq K)).drop (k + 1)).length ≤ 8 := by rw [List.length_drop, List.length_map, ld]; omega
      refine (ev_catF2 (ev_catF1 (ev_slTo k (evDt h1) (eo_some (ev_var h3)) (by rw [List.length_map, ld]; omega)) (ev_tupF hm (by show 1 ≤ 1000; decide)) (by simp) (by show _ + 1 ≤ _; omega)) (ev_slFrom (k + 1) (evDt h1) (eo_to (eo_some (ev_add (ev_var h3) ev_int)) (o' := some ((k + 1 : Nat) : Int)) (by congr 1)) (by rw [List.length_map, ld]; omega)) (by simp) (by rw [List.length_append]; show _ + 1 + _ ≤ _; omega)).to ?_
      rw [List.map_append, List.map_append, List.map_take, List.map_drop]
      rfl
    refine ok_ifK (ext_of (et_test (ev_lt (ev_var rfl) ev_int)) ⟨fun _ => ok_retSeq (retT ds (evD rfl) fds (by rw [ld]; omega) b3), fun _ => ok_nextSeq ?_⟩)
    refine ok_ifK (ext_of (et_test (ev_eqI (ev_var rfl) ev_int)) ⟨fun _ => ok_retSeq (retT ds.reverse ((ev_revF (evDt rfl)).to (by rw [List.map_reverse])) (fun x hx => fds x (List.mem_reverse.mp hx)) (by rw [List.length_reverse, ld]; omega) b3), fun _ => ok_nextSeq ?_⟩)
    refine ok_ifK (ext_of (et_test (ev_eqI (ev_var rfl) ev_int)) ⟨fun _ => ok_retSeq (retT (ds ++ [dPr c]) ((ev_catF1 (Qs := [rDq K (dPr c)]) (evDt rfl) (ev_tupF (ea_cons ((ev_ixT (P := rPair K c) (evR rfl) (ev_var rfl) (Int.natCast_nonneg k) (by rw [Int.toNat_natCast, List.getElem?_map, hc]; rfl)).imp pair_dq) ea_nil)) (by simp) (by rw [List.length_map, ld]; show _ + 1 ≤ _; have := sizeLine_eq; omega)).to (by rw [List.map_append]; rfl)) (fun x hx => (List.mem_append.mp hx).elim (fds x) fun hx => by rw [List.mem_singleton.mp hx]; exact (fine_dPr hn1 hn2).mono (by decide) (by decide)) (by rw [List.length_append, ld]; show _ + 1 ≤ 8; omega) b3), fun _ => ok_nextSeq ?_⟩)
    have f6 : FineN 60 3 (.tuple [bad, oD c.2]) := (fine_tup (fineL_of (w := 20) (k := 2) (ds := [bad, oD c.2]) fun x hx => by
      rcases List.mem_cons.mp hx with e | hx
      · rw [e]; exact fb
      · rw [List.mem_singleton.mp hx]; exact (fineN_oD hn2).mono (by decide) (by decide))).mono (by show (20 + 1) * 2 ≤ 60; decide) (by decide)
    have f7 : FineN 60 3 (.tuple [.str c.1, bad]) := (fine_tup (fineL_of (w := 20) (k := 2) (ds := [.str c.1, bad]) fun x hx => by
      rcases List.mem_cons.mp hx with e | hx
      · rw [e]; exact (fineN_word hn1).mono (by decide) (by decide)
      · rw [List.mem_singleton.mp hx]; exact fb)).mono (by show (20 + 1) * 2 ≤ 60; decide) (by decide)
    refine ok_ifK (ext_of (et_test (ev_eqI (ev_var rfl) ev_int)) ⟨fun _ => ok_retSeq (retT _ (evM (.tuple [bad, oD c.2]) rfl rfl (ea_cons (ev_tupD (ds := [bad, oD c.2]) (ea_cons (ev_var rfl) (ea_cons ((ev_var rfl).imp opt_dq) ea_nil))) ea_nil)) (mid _ f6).1 (mid _ f6).2 b3), fun _ => ok_nextSeq ?_⟩)
    refine ok_ifK (ext_of (et_test (ev_eqI (ev_var rfl) ev_int)) ⟨fun _ => ok_retSeq (retT _ (evM (.tuple [.str c.1, bad]) rfl rfl (ea_cons (ev_tupD (ds := [.str c.1, bad]) (ea_cons (ev_dS (ev_var rfl)) (ea_cons (ev_var rfl) ea_nil))) ea_nil)) (mid _ f7).1 (mid _ f7).2 b3), fun _ => ok_nextSeq ?_⟩)
    refine ok_ifK (ext_of (r1 := [(p, cPot (B + 3))]) (et_test (ev_eqI (ev_var rfl) ev_int)) ⟨fun _ => ok_block ?w8, fun _ => ok_nextSeq ?_⟩)
    case w8 =>
      have b4 : ∃ B', B' ≤ B + 4 ∧ ([(p, cPot (B + 4))] : Rs) = [(p, cPot B')] := ⟨B + 4, by omega, rfl⟩
      refine ok_asgK (EvX.impP (Φ := fun P' r3 => (∃ y : Str, P' = rTp [rStr c.1, rStr y] ∧ madeB small (.str y) = true) ∧ r3 = [(p, cPot (B + 4))]) (ex_tupP (exa_cons1 (ev_var rfl) (exa_cons (EvX.imp (ex_callK (Ω := fun P r' => (∃ y : Str, P = rStr y ∧ madeB small (.str y) = true) ∧ r' = [(p, cPot (B + 4))]) [(p, cPot (B + 3))] [] (ea_cons (ev_var rfl) (ea_cons (ev_lcM K (R := rPair K) (xs := cs) (fun c => rStr c.1) (ei_tup (evR rfl)) fun _ c hx => ⟨_, _, bg1, all_in, ev_ixT0 0 (Ps := [rStr c.1, rOpt rStr c.2]) (ev_var rfl) rfl⟩) ea_nil)) ⟨p, _, _, rfl, rfl, by omega, .inl ⟨_, rfl, (by rw [List.length_map]; exact ne), (by rw [List.length_map]; omega), rfl⟩⟩ ?an) ?an3)))) ?im)
      case an =>
        rintro P r' ⟨hP, rfl⟩
        obtain ⟨c2, hc2, rfl⟩ := List.mem_map.mp hP
        exact ⟨⟨c2.1, rfl, hr7.nm c2 hc2⟩, by rw [show B + 3 + 1 = B + 4 by omega]; rfl⟩
      case an3 =>
        rintro P r' ⟨⟨y, rfl, hy⟩, rfl⟩
        exact exa_nil ⟨by show 2 ≤ 1000; decide, ⟨y, rfl, hy⟩, rfl⟩
      case im =>
        rintro P r1 ⟨⟨y, rfl, hy⟩, rfl⟩
        refine ⟨rDq K (.tuple [.str c.1, .str y]), ?_, fun G v h => tp_dq (ds := [.str c.1, .str y]) G v ?_⟩
        · refine ok_retK (retT _ (evM (.tuple [.str c.1, .str y]) rfl rfl (ea_cons (ev_var rfl) ea_nil)) (mid _ ?f8).1 (mid _ ?f8).2 b4)
          exact (fine_tup (fineL_of (w := 10) (k := 0) (ds := [.str c.1, .str y]) fun x hx => by
            rcases List.mem_cons.mp hx with e | hx
            · rw [e]; exact fineN_word hn1
            · rw [List.mem_singleton.mp hx]; exact fineN_word hy)).mono (by show (10 + 1) * 2 ≤ 60; decide) (by decide)
        · obtain ⟨z, a, vs, e, h1, al⟩ := h
          refine ⟨z, a, vs, e, h1, ?_⟩
          cases al with
          | cons a1 al => cases al with
            | cons a2 al =>
              cases al
              exact .cons (q_str _ _ a1) (.cons (q_str _ _ a2) .nil)
    refine ok_ifK (ext_of (r1 := [(p, cPot (B + 3))]) (et_test (ev_eqI (ev_var rfl) ev_int)) ⟨fun _ => ok_block ?w9, fun _ => ok_nextSeq ?_⟩)
    case w9 =>
      have b4 : ∃ B', B' ≤ B + 4 ∧ ([(p, cPot (B + 4))] : Rs) = [(p, cPot B')] := ⟨B + 4, by omega, rfl⟩
      let bs : List PyData := [.tuple [.str c.1], .list [.str c.1, oD c.2], .tuple [.str c.1, oD c.2, oD c.2], .str c.1, .none]
      refine ok_asgK (EvX.imp (ex_callK [(p, cPot (B + 3))] [] (ea_cons (ev_var rfl) (ea_cons (ev_lp (ev_lstP (Ps := bs.map (rDq K)) (ea_cons (ev_tupD (ds := [.str c.1]) (ea_cons (ev_dS (ev_var rfl)) ea_nil)) (ea_cons (ev_lstD (ds := [.str c.1, oD c.2]) (ea_cons (ev_dS (ev_var rfl)) (ea_cons ((ev_var rfl).imp opt_dq) ea_nil))) (ea_cons (ev_tupD (ds := [.str c.1, oD c.2, oD c.2]) (ea_cons (ev_dS (ev_var rfl)) (ea_cons ((ev_var rfl).imp opt_dq) (ea_cons ((ev_var rfl).imp opt_dq) ea_nil)))) (ea_cons (ev_dS (ev_var rfl)) (ea_cons ev_cN ea_nil))))))) ea_nil)) ⟨p, _, _, rfl, rfl, by omega, .inl ⟨_, rfl, (by show 1 ≤ 5; decide), (by show 5 < 1000; decide), rfl⟩⟩ (Ω := fun P r' => (∃ b, P = rDq K b ∧ FineN 60 3 b) ∧ r' = [(p, cPot (B + 4))]) ?bd) ?_)
      case bd =>
        rintro P r' ⟨hP, rfl⟩
        obtain ⟨b, hb, rfl⟩ := List.mem_map.mp hP
        refine ⟨⟨b, rfl, ?_⟩, by rw [show B + 3 + 1 = B + 4 by omega]; rfl⟩
        have g : ∀ (es : List PyData), (∀ x ∈ es, x = .str c.1 ∨ x = oD c.2) → es.length ≤ 4 → FineN 60 3 (.tuple es) ∧ FineN 60 3 (.list es) := fun es he hl => by
          have L := fineL_of (w := 10) (k := 0) (ds := es) fun x hx => by
            rcases he x hx with e | e
            · rw [e]; exact fineN_word hn1
            · rw [e]; exact fineN_oD hn2
          exact ⟨(fine_tup L).mono (by omega) (by decide), (fine_lst L).mono (by omega) (by decide)⟩
        simp only [bs, List.mem_cons, List.not_mem_nil, or_false] at hb
        rcases hb with rfl | rfl | rfl | rfl | rfl
        · exact (g _ (by simp) (by show 1 ≤ 4; decide)).1
        · exact (g _ (by simp) (by show 2 ≤ 4; decide)).2
        · exact (g _ (by simp) (by show 3 ≤ 4; decide)).1
        · exact fw
        · exact fineN_by (by decide +kernel)
      rintro P r' ⟨⟨b, rfl, hb⟩, rfl⟩
      exact ok_retK (retT _ (evM b rfl rfl (ea_cons (ev_var rfl) ea_nil)) (mid _ hb).1 (mid _ hb).2 b4)
    let fs : List PyData := [.list ds, .tuple [], .none, .str "ab", .dict [], dctOf cs, .int 0, .tuple [.tuple ds], dPr c]
    refine ok_retK (EvX.impP (ex_callK (Ω := fun P r' => (∃ d, P = rDq K d ∧ d ∈ fs) ∧ r' = [(p, cPot (B + 4))]) [(p, cPot (B + 3))] [] (ea_cons (ev_var rfl) (ea_cons (ev_lp (ev_lstP (Ps := fs.map (rDq K)) (ea_cons (ev_listTD (ea_cons (evDt rfl) ea_nil)) (ea_cons (ev_tupD (ds := []) ea_nil) (ea_cons ev_cN (ea_cons ev_cS (ea_cons ev_dctD (ea_cons (ev_dctD2 (ex_dictT (ea_cons (ev_var rfl) ea_nil) (by rw [csP_keys]; exact nodup_inr hr7.nd))) (ea_cons ev_cI (ea_cons (ev_tupD (ds := [.tuple ds]) (ea_cons ((evD rfl).imp tq_dq) ea_nil)) (ea_cons ((ev_ixT (P := rPair K c) (evR rfl) (ev_var rfl) (Int.natCast_nonneg k) (by rw [Int.toNat_natCast, List.getElem?_map, hc]; rfl)).imp pair_dq) ea_nil))))))))))) ea_nil)) ⟨p, _, _, rfl, rfl, by omega, .inl ⟨_, rfl, (by show 1 ≤ 9; decide), (by show 9 < 1000; decide), rfl⟩⟩ ?an2) ?im2)
    case an2 =>
      rintro P r' ⟨hP, rfl⟩
      obtain ⟨d, hd, rfl⟩ := List.mem_map.mp hP
      exact ⟨⟨d, rfl, hd⟩, by rw [show B + 3 + 1 = B + 4 by omega]; rfl⟩
    case im2 =>
      rintro P r1 ⟨⟨d, rfl, hd⟩, rfl⟩
      have fl : FineL 500 3 ds := by
        have L := fineL_of fds
        exact ⟨L.l, Nat.le_trans L.w (by rw [ld]; omega), L.dp, L.s⟩
      have key : FineN 2000 10 d ∧ cpC d = false := by
        simp only [fs, List.mem_cons, List.not_mem_nil, or_false] at hd
        rcases hd with rfl | rfl | rfl | rfl | rfl | rfl | rfl | rfl | rfl
        · exact ⟨(fine_lst fl).mono (by decide) (by decide), rfl⟩
        · exact ⟨fineN_by (by decide +kernel), rfl⟩
        · exact ⟨fineN_by (by decide +kernel), rfl⟩
        · exact ⟨fineN_by (by decide +kernel), rfl⟩
        · exact ⟨fineN_by (by decide +kernel), rfl⟩
        · have L := fine_kv (w := 10) (k := 0) (es := cs.map fun c => ((.str c.1 : PyData), oD c.2)) fun x hx => by
            obtain ⟨c2, hc2, rfl⟩ := List.mem_map.mp hx
            exact ⟨fineN_word (hr7.nm c2 hc2), fineN_oD (hr7.fo c2 hc2)⟩
          refine ⟨⟨L.1, Nat.le_trans L.2.1 (by rw [List.length_map]; omega), ?_, L.2.2.2⟩, rfl⟩
          show PyData.depthKv _ + 1 ≤ 10
          have := L.2.2.1
          omega
        · exact ⟨fineN_by (by decide +kernel), rfl⟩
        · refine ⟨(fine_tup (fineL_of (w := 500) (k := 4) (ds := [.tuple ds]) fun x hx => by rw [List.mem_singleton.mp hx]; exact fine_tup fl)).mono (by show (500 + 1) * 1 ≤ 2000; decide) (by decide), ?_⟩
          show (prsB [.tuple ds] && _) = false
          rw [show prsB [.tuple ds] = false from by
            show (true && (true && ((pB1 (.tuple ds) && pB2 (.tuple ds)) && true))) = false
            rw [np_rows fun x hx => by obtain ⟨c2, _, rfl⟩ := List.mem_map.mp hx; rfl]
            rfl]
          rfl
        · exact ⟨(fine_dPr hn1 hn2).mono (by decide) (by decide), rfl⟩
      exact ⟨rVd K d, ⟨d, rfl, shV_of (Nat.le_trans key.1.w (by decide)), key.1, rfl⟩, dq_vd key.2⟩
abbrev s_law_is_name : Stmt := top 100
abbrev N_law_is_name : List Str := ["_law_thing", "_law_letter"]
theorem sc_law_is_name : FnScope N_law_is_name ["_law_thing"] (defScope s_law_is_name) := ⟨rfl, rfl, rfl, by decide +kernel, rfl, by decide +kernel, by decide +kernel⟩
theorem ok_law_is_name (T : TxK K mg A) (T2 : TxE P K mg A)   {f : Addr} {fd : FuncData} (F : FunD K "_law_is_name" "_law_is_name" (defArgs s_law_is_name) (defBody s_law_is_name) (defScope s_law_is_name) [] [] f fd) : FnOk P w K mg base CX0 1 f fd ["_law_thing"] (spP fun Ps P => ∃ d, Ps = [rDq K d] ∧ P = rBl (nmB d) ∧ Sh d) := by
  refine F.ok sc_law_is_name (fun vs H Q E h => len_P h (fun Ps P hT => by first | (obtain ⟨_, rfl, _⟩ := hT; rfl) | (obtain ⟨_, _, rfl, _⟩ := hT; rfl) | (obtain ⟨_, _, _, rfl, _⟩ := hT; rfl) | (obtain ⟨_, _, _, _, rfl, _⟩ := hT; rfl) | (obtain ⟨_, _, _, _, _, rfl, _⟩ := hT; rfl) | (obtain ⟨_, _, _, _, _, _, rfl, _⟩ := hT; rfl) | (obtain ⟨_, _, _, _, _, _, _, rfl, _⟩ := hT; rfl) | (obtain ⟨_, _, _, _, _, _, _, _, rfl, _⟩ := hT; rfl) | (obtain ⟨rfl, _⟩ := hT; rfl))) (fun cdv A0 outer s H vs Q E hr h => ?_)
  · have nd := sc_law_is_name.nd
    have hu := hu_of hr
    refine ⟨_, PSs.nox (pss_cons (ps_if (PW.pt (pw_or (pt_not (pt_val (pe_callB (id := "isinstance") (r := rIsi K) call_isi (by rfl) T2.n_isinstance (by decide +kernel) (pa_cons (pv 0) (pa_cons (pe_bltn (by rfl) T2.n_str (by decide +kernel) (u := .type "str") (v := .ty "str") rfl) pa_nil))))) (pw_or1 (pt_not (pt_chain op_lt op_lt pe_int (pe_callB (id := "len") call_len (by rfl) T.n_len (by decide +kernel) (pa_cons (pv 0) pa_nil)) pe_int))))) (pss_one (ps_ret pe_bl)) pss_nil)
      (pss_one (ps_ret (pe_callB (id := "all") (cr_all rfl) (by rfl) T.n_all (by decide +kernel) (pa_cons (pe_lc (own := [("_law_letter", 1)]) (g := (gName 1)) (tt := tYes) rfl nd (pi_str (pv 0)) (blkOk_by (N := N_law_is_name) (sc := defScope s_law_is_name) (own := [("_law_letter", 1)]) (by decide +kernel)) (fun _ _ _ _ _ => (pg_name (i := 1) nd rfl (by first | exact Or.inl rfl | exact Or.inr rfl))) (fun _ _ _ _ _ => pts_nil) (fun _ _ _ _ _ => (pe_cmpR op_in_sign (pv 1) pe_str rfl))) pa_nil))))), ?_⟩
    refine run_P h fun Ps P hT e => ?_
    obtain ⟨d, rfl, rfl, hz⟩ := hT
    by_cases hd : ∃ z, d = .str z
    · obtain ⟨z, rfl⟩ := hd
      have hz := hz z rfl
      refine ok_ifK (ext_or (ext_not (ext_of (et_test (ev_isiD (ea_cons (ev_var rfl) (ea_cons ev_cV ea_nil)) (kS (.str z)))) ⟨fun h => (by cases h), fun _ => ext_not (ext_of (et_test (ev_chain (k' := 0) ev_int (ev_lenS (ea_cons (ev_dStr (ev_var rfl)) ea_nil) hz) (fun H W w => ⟨_, _, rfl, rfl, w⟩) (fun _ => ev_int) (fun H W w => ⟨_, _, rfl, rfl, w⟩))) ⟨fun h => ?_, fun h => ?_⟩)⟩)))
      · refine ok_retSeq (ex_of ev_bl ?_)
        show rBl false = rBl (madeB small (.str z))
        congr 1
        have h := not_eq h
        show false = (decide (1 ≤ (z.length : Int)) && decide ((z.length : Int) ≤ 8) && (z.cps.toList.all fun c => decide (c ∈ small.cps.toList)))
        have h2 : (decide (1 ≤ (z.length : Int)) && decide ((z.length : Int) ≤ 8)) = false := by
          rw [Bool.eq_false_iff] at h ⊢
          intro q
          apply h
          rw [Bool.and_eq_true, decide_eq_true_eq, decide_eq_true_eq] at q ⊢
          omega
        rw [h2]
        rfl
      · have h := not_eq' h
        have h2 : (decide (1 ≤ (z.length : Int)) && decide ((z.length : Int) ≤ 8)) = true := by
          rw [Bool.and_eq_true, decide_eq_true_eq, decide_eq_true_eq] at h ⊢
          omega
        refine ok_nextSeq (ok_ret (r1 := []) ((ev_all (bs := z.cps.toList.map fun c => decide (c ∈ small.cps.toList)) (ea_cons ?_ ea_nil)).to ?_) rfl)
        · rw [List.map_map]
          exact ev_lcM K (fun c => rBl (decide (c ∈ small.cps.toList))) (ei_str (ev_dStr (ev_var rfl)) hz) fun _ c _ => ⟨_, _, bg1, all_in, ev_sign (ev_var rfl) ev_str⟩
        · show rBl _ = rBl (decide (1 ≤ (z.length : Int)) && decide ((z.length : Int) ≤ 8) && (z.cps.toList.all fun c => decide (c ∈ small.cps.toList)))
          rw [h2, List.all_map]
          rfl
    · have h0 : isS d = false := by cases d <;> first | rfl | exact absurd ⟨_, rfl⟩ hd
      have h1 : nmB d = false := by cases d <;> first | rfl | exact absurd ⟨_, rfl⟩ hd
      refine ok_ifK (ext_or (ext_not (ext_of (et_test (ev_isiD (ea_cons (ev_var rfl) (ea_cons ev_cV ea_nil)) (kS d))) ⟨fun _ => ⟨fun _ => ok_retSeq (ex_of ev_bl (by rw [h1]; rfl)), fun h => (by cases h)⟩, fun h => (by rw [h0] at h; cases h)⟩)))
abbrev s_law_are_pairs : Stmt := top 101
abbrev N_law_are_pairs : List Str := ["_law_thing", "_law_pair"]
theorem sc_law_are_pairs : FnScope N_law_are_pairs ["_law_thing"] (defScope s_law_are_pairs) := ⟨rfl, rfl, rfl, by decide +kernel, rfl, by decide +kernel, by decide +kernel⟩
theorem ok_law_are_pairs (T : TxK K mg A) (T2 : TxE P K mg A) (D_law_is_name : CalF P w K mg base CX0 1 "_law_is_name" ["_law_thing"] (spP fun Ps P => ∃ d, Ps = [rDq K d] ∧ P = rBl (nmB d) ∧ Sh d))  {f : Addr} {fd : FuncData} (F : FunD K "_law_are_pairs" "_law_are_pairs" (defArgs s_law_are_pairs) (defBody s_law_are_pairs) (defScope s_law_are_pairs) [] [] f fd) : FnOk P w K mg base CX0 2 f fd ["_law_thing"] (spP fun Ps P => ∃ d, Ps = [rVd K d] ∧ ShV d ∧ P = rBl (prsD d)) := by
  refine F.ok sc_law_are_pairs (fun vs H Q E h => len_P h (fun Ps P hT => by first | (obtain ⟨_, rfl, _⟩ := hT; rfl) | (obtain ⟨_, _, rfl, _⟩ := hT; rfl) | (obtain ⟨_, _, _, rfl, _⟩ := hT; rfl) | (obtain ⟨_, _, _, _, rfl, _⟩ := hT; rfl) | (obtain ⟨_, _, _, _, _, rfl, _⟩ := hT; rfl) | (obtain ⟨_, _, _, _, _, _, rfl, _⟩ := hT; rfl) | (obtain ⟨_, _, _, _, _, _, _, rfl, _⟩ := hT; rfl) | (obtain ⟨_, _, _, _, _, _, _, _, rfl, _⟩ := hT; rfl) | (obtain ⟨rfl, _⟩ := hT; rfl))) (fun cdv A0 outer s H vs Q E hr h => ?_)
  · have nd := sc_law_are_pairs.nd
    have hu := hu_of hr
    refine ⟨_, PSs.nox (pss_cons (ps_if (PW.pt (pw_or (pt_not (pt_val (pe_callB (id := "isinstance") (r := rIsi K) call_isi (by rfl) T2.n_isinstance (by decide +kernel) (pa_cons (pv 0) (pa_cons (pe_bltn (by rfl) T.n_tuple (by decide +kernel) (u := .type "tuple") (v := .ty "tuple") rfl) pa_nil))))) (pw_or1 (pt_not (pt_chain op_lt op_lt pe_int (pe_callB (id := "len") call_len (by rfl) T.n_len (by decide +kernel) (pa_cons (pv 0) pa_nil)) pe_int))))) (pss_one (ps_ret pe_bl)) pss_nil)
      (pss_cons (ps_for PassesOwn.never rfl (pi_tup (pv 0)) (pg_name (i := 1) nd rfl (by first | exact Or.inl rfl | exact Or.inr rfl)) (pss_cons (ps_if (PW.pt (pw_or (pt_not (pt_val (pe_callB (id := "isinstance") (r := rIsi K) call_isi (by rfl) T2.n_isinstance (by decide +kernel) (pa_cons (pv 1) (pa_cons (pe_bltn (by rfl) T.n_tuple (by decide +kernel) (u := .type "tuple") (v := .ty "tuple") rfl) pa_nil))))) (pw_or (pt_cmpR op_ne (pe_callB (id := "len") call_len (by rfl) T.n_len (by decide +kernel) (pa_cons (pv 1) pa_nil)) pe_int (nomark _)) (pw_or1 (pt_not (pt_val (pe_cF D_law_is_name pass0 hr rfl (pa_cons (pe_ix (r := rIxT K) ix_tup (pv 1) pe_int (fun _ _ => rfl)) pa_nil)))))))) (pss_one (ps_ret pe_bl)) pss_nil)
      (pss_one (ps_if (PW.pt (pw_and (pt_cmp (pc_notN (pe_ix (r := rIxT K) ix_tup (pv 1) pe_int (fun _ _ => rfl))) rfl) (pw_and1 (pt_not (pt_val (pe_cF D_law_is_name pass0 hr rfl (pa_cons (pe_ix (r := rIxT K) ix_tup (pv 1) pe_int (fun _ _ => rfl)) pa_nil))))))) (pss_one (ps_ret pe_bl)) pss_nil))))
      (pss_one (ps_ret pe_bl)))), ?_⟩
    refine run_P h fun Ps P hT e => ?_
    obtain ⟨d, rfl, hsh, rfl⟩ := hT
    by_cases hd : ∃ ds, d = .tuple ds
    case neg =>
      have h0 : isT d = false := by cases d <;> first | rfl | exact absurd ⟨_, rfl⟩ hd
      have h1 : prsD d = false := by cases d <;> first | rfl | exact absurd ⟨_, rfl⟩ hd
      rw [h1]
      refine ok_ifK (ext_of (b := true) ((et_or (b := true) (et_not (et_test (ev_isiD (ea_cons (Ev.imp (ev_var rfl) vd_dq) (ea_cons ev_cV ea_nil)) (kT d)))) fun h => by rw [h0] at h; cases h).to (by rw [h0]; rfl)) ⟨fun _ => ok_retSeq (ex_of ev_bl rfl), fun h => (by cases h)⟩)
    obtain ⟨ds, rfl⟩ := hd
    obtain ⟨hzl, hsp⟩ := hsh ds rfl
    have evT : ∀ {s' : Sls} {r' : Rs}, s'[0]? = some (some (rVd K (.tuple ds))) → Ev s' r' (tVar 0) (rTs K (ds.map (rDq K))) r' := fun h => ev_dTs (Ev.imp (ev_var h) vd_dq) hzl
    have lp : (ds.map (rDq K)).length = ds.length := List.length_map _
    show Ok e _ _ _ (poP (rBl (prsB ds)))
    refine ok_ifK (ext_of (r1 := []) (b := !(decide (1 ≤ ds.length) && decide (ds.length ≤ 6))) (EvT.to (et_or (et_not (et_test (ev_isiD (ea_cons (Ev.imp (ev_var rfl) vd_dq) (ea_cons ev_cV ea_nil)) (kT (.tuple ds))))) fun _ => et_not (et_test (ev_chain (k' := 0) ev_int (ev_lenT (ea_cons (evT rfl) ea_nil)) (fun H W w => ⟨_, _, rfl, rfl, w⟩) (fun _ => ev_int) (fun H W w => ⟨_, _, rfl, rfl, w⟩)))) ?_) ⟨fun h => ok_retSeq (ex_of ev_bl ?_), fun h => ok_nextSeq ?_⟩)
    · rw [lp]
      show (!true || !(decide ((0 : Int) < (ds.length : Int)) && decide ((ds.length : Int) < 7))) = _
      rw [show decide ((0 : Int) < (ds.length : Int)) = decide (1 ≤ ds.length) from decide_eq_decide.mpr (by omega), show decide ((ds.length : Int) < 7) = decide (ds.length ≤ 6) from decide_eq_decide.mpr (by omega)]
      rfl
    · show rBl false = rBl (prsB ds)
      have : prsB ds = false := by
        show (decide (1 ≤ ds.length) && (decide (ds.length ≤ 6) && ds.all prB)) = false
        have h := not_eq h
        rw [← Bool.and_assoc, h]; rfl
      rw [this]
    have hlen := not_eq' h
    rw [Bool.and_eq_true, decide_eq_true_eq, decide_eq_true_eq] at hlen
    have bad : ∀ x ∈ ds, prB x = false → prsB ds = false := fun x hx h => by
      rw [Bool.eq_false_iff]
      intro q
      obtain ⟨_, q⟩ := Bool.and_eq_true_iff.mp q
      obtain ⟨_, q⟩ := Bool.and_eq_true_iff.mp q
      rw [List.all_eq_true] at q
      rw [q x hx] at h
      cases h
    refine ok_seq (fun s' r' => Lo [some (rVd K (.tuple ds)), none] s' ∧ r' = [] ∧ ds.all prB = true) (ok_forM (R := rDq K) (xs := ds) (fun pre s' r' => Lo [some (rVd K (.tuple ds)), none] s' ∧ r' = [] ∧ pre.all prB = true) (ei_tup (evT rfl)) ⟨.keep (.skip .nil), rfl, rfl⟩ ?_ fun s' r' h => h) ?_
    · rintro _ pre x suf hm s' r' ⟨hl, rfl, hpre⟩
      have hx : x ∈ ds := by rw [hm]; exact List.mem_append_right _ List.mem_cons_self
      have hxs := hsp x hx
      refine ⟨_, _, bg1, ?_⟩
      refine Ok.lo (s' := ([some (rVd K (.tuple ds)), some (rDq K x)] : Sls)) ?_ (Lo.set 1 hl)
      have evX : ∀ {es : List PyData} {s' : Sls} {r' : Rs}, x = .tuple es → s'[1]? = some (some (rDq K x)) → Ev s' r' (tVar 1) (rTs K (es.map (rDq K))) r' := fun {es s' r'} e h => ev_dTs ((ev_var h).to (by rw [e])) (hxs es e).1
      refine ok_ifK (ext_of (r1 := []) (et_p1 (ev_isiD (ea_cons (ev_var rfl) (ea_cons ev_cV ea_nil)) (kT x)) (fun es e => (ev_neI (ev_lenT (ea_cons (evX e rfl) ea_nil)) ev_int).to (by rw [List.length_map])) fun a b e => ev_call (ea_cons (ev_ixT0 0 (Ps := [rDq K a, rDq K b]) (evX e rfl) rfl) ea_nil) ⟨a, rfl, rfl, (hxs _ e).2 a List.mem_cons_self⟩) ⟨fun h => ok_retSeq (ex_of ev_bl ?_), fun h => ok_nextSeq ?_⟩)
      · show rBl false = rBl _
        rw [bad x hx (by show (pB1 x && pB2 x) = false; rw [not_eq h]; rfl)]
      obtain ⟨a, b, rfl, ha⟩ := p1_tup (not_eq' h)
      refine ok_if (et_p2 (b := b) (ev_notND (ev_ixT0 1 (Ps := [rDq K a, rDq K b]) (evX rfl rfl) rfl)) (ev_call (ea_cons (ev_ixT0 1 (Ps := [rDq K a, rDq K b]) (evX rfl rfl) rfl) ea_nil) ⟨b, rfl, rfl, (hxs _ rfl).2 b (List.mem_cons_of_mem _ List.mem_cons_self)⟩)) (fun h2 => ok_ret ev_bl ?_) fun h2 => ok_next ⟨.keep (.skip .nil), rfl, ?_⟩
      · show rBl false = rBl _
        rw [bad _ hx (by show (pB1 _ && (noneB b || nmB b)) = false; rw [not_eq h2, Bool.and_false])]
      · rw [List.all_append, hpre]
        show (true && (prB (.tuple [a, b]) && true)) = true
        rw [show prB (.tuple [a, b]) = true from by show (pB1 _ && (noneB b || nmB b)) = true; rw [not_eq' h, not_eq' h2]; rfl]
        rfl
    rintro s' r' ⟨hl, rfl, hall⟩
    refine Ok.lo ?_ hl
    have hprs : prsB ds = true := by
      show (decide (1 ≤ ds.length) && (decide (ds.length ≤ 6) && ds.all prB)) = true
      rw [decide_eq_true hlen.1, decide_eq_true hlen.2, hall]; rfl
    exact ok_ret ev_bl (show rBl true = rBl (prsB ds) by rw [hprs])
abbrev s_law_are_copies : Stmt := top 102
abbrev N_law_are_copies : List Str := ["_law_thing", "_law_words_here", "_law_pair", "_law_known", "_law_turn"]
theorem sc_law_are_copies : FnScope N_law_are_copies ["_law_thing"] (defScope s_law_are_copies) := ⟨rfl, rfl, rfl, by decide +kernel, rfl, by decide +kernel, by decide +kernel⟩
theorem ok_law_are_copies (T : TxK K mg A) (T2 : TxE P K mg A) (D_law_are_pairs : CalF P w K mg base CX0 2 "_law_are_pairs" ["_law_thing"] (spP fun Ps P => ∃ d, Ps = [rVd K d] ∧ ShV d ∧ P = rBl (prsD d)))  {f : Addr} {fd : FuncData} (F : FunD K "_law_are_copies" "_law_are_copies" (defArgs s_law_are_copies) (defBody s_law_are_copies) (defScope s_law_are_copies) [] [] f fd) : FnOk P w K mg base CX0 3 f fd ["_law_thing"] (spP fun Ps P => ∃ d, Ps = [rVd K d] ∧ ShV d ∧ P = rBl (cpB d)) := by
  refine F.ok sc_law_are_copies (fun vs H Q E h => len_P h (fun Ps P hT => by first | (obtain ⟨_, rfl, _⟩ := hT; rfl) | (obtain ⟨_, _, rfl, _⟩ := hT; rfl) | (obtain ⟨_, _, _, rfl, _⟩ := hT; rfl) | (obtain ⟨_, _, _, _, rfl, _⟩ := hT; rfl) | (obtain ⟨_, _, _, _, _, rfl, _⟩ := hT; rfl) | (obtain ⟨_, _, _, _, _, _, rfl, _⟩ := hT; rfl) | (obtain ⟨_, _, _, _, _, _, _, rfl, _⟩ := hT; rfl) | (obtain ⟨_, _, _, _, _, _, _, _, rfl, _⟩ := hT; rfl) | (obtain ⟨rfl, _⟩ := hT; rfl))) (fun cdv A0 outer s H vs Q E hr h => ?_)
  · have nd := sc_law_are_copies.nd
    have hu := hu_of hr
    refine ⟨_, PSs.nox (pss_cons (ps_if (pt_not (pt_val (pe_cF D_law_are_pairs pass0 hr rfl (pa_cons (pv 0) pa_nil)))) (pss_one (ps_ret pe_bl)) pss_nil)
      (pss_cons (ps_set (i := 1) nd rfl (by first | exact Or.inl rfl | exact Or.inr rfl) (pe_lc (own := [("_law_pair", 2)]) (g := (gName 2)) (tt := tYes) rfl nd (pi_tup (pv 0)) (blkOk_by (N := N_law_are_copies) (sc := defScope s_law_are_copies) (own := [("_law_pair", 2)]) (by decide +kernel)) (fun _ _ _ _ _ => (pg_name (i := 2) nd rfl (by first | exact Or.inl rfl | exact Or.inr rfl))) (fun _ _ _ _ _ => pts_nil) (fun _ _ _ _ _ => (pe_ix (r := rIxT K) ix_tup (pv 2) pe_int (fun _ _ => rfl)))))
      (pss_cons (ps_if (PW.pt (pw_or (pt_cmpR (op_neD hr.units) (pe_callB (id := "sorted") (cr_sortedSS rfl) (by rfl) T.n_sorted (by decide +kernel) (pa_cons (pe_callTy (cr_setS rfl) (by rfl) T.n_set (by decide +kernel) (pa_cons (pv 1) pa_nil)) pa_nil)) (pv 1) (nomark _)) (pw_or1 (pt_not (pt_val (pe_callB (id := "all") (cr_all rfl) (by rfl) T.n_all (by decide +kernel) (pa_cons (pe_lc (own := [("_law_pair", 2)]) (g := (gName 2)) (tt := tYes) rfl nd (pi_tup (pv 0)) (blkOk_by (N := N_law_are_copies) (sc := defScope s_law_are_copies) (own := [("_law_pair", 2)]) (by decide +kernel)) (fun _ _ _ _ _ => (pg_name (i := 2) nd rfl (by first | exact Or.inl rfl | exact Or.inr rfl))) (fun _ _ _ _ _ => pts_nil) (fun _ _ _ _ _ => (pe_or (pe_cmp (pc_isN (pe_ix (r := rIxT K) ix_tup (pv 2) pe_int (fun _ _ => rfl))) rfl) (pe_one (pe_cmpR (r := rIn K false) op_in_seq (pe_ix (r := rIxT K) ix_tup (pv 2) pe_int (fun _ _ => rfl)) (pv 1) rfl))))) pa_nil))))))) (pss_one (ps_ret pe_bl)) pss_nil)
      (pss_cons (ps_set (i := 3) nd rfl (by first | exact Or.inl rfl | exact Or.inr rfl) (pe_lst pa_nil))
      (pss_cons (ps_for PassesOwn.never rfl (pi_list (pv 1)) (pg_name (i := 4) nd rfl (by first | exact Or.inl rfl | exact Or.inr rfl)) (pss_one (ps_set (i := 3) nd rfl (by first | exact Or.inl rfl | exact Or.inr rfl) (pe_lc (own := [("_law_pair", 2)]) (g := (gName 2)) rfl nd (pi_tup (pv 0)) (blkOk_by (N := N_law_are_copies) (sc := defScope s_law_are_copies) (own := [("_law_pair", 2)]) (by decide +kernel)) (fun _ _ _ _ _ => (pg_name (i := 2) nd rfl (by first | exact Or.inl rfl | exact Or.inr rfl))) (fun _ _ _ _ _ => pts_one (PW.pt (pw_or (pt_cmp (pc_isN (pe_ix (r := rIxT K) ix_tup (pv 2) pe_int (fun _ _ => rfl))) rfl) (pw_or1 (pt_cmpR (r := rIn K false) op_in_seq (pe_ix (r := rIxT K) ix_tup (pv 2) pe_int (fun _ _ => rfl)) (pv 3) rfl))))) (fun _ _ _ _ _ => (pe_ix (r := rIxT K) ix_tup (pv 2) pe_int (fun _ _ => rfl)))))))
      (pss_one (ps_ret (pe_cmpR (op_eqD hr.units) (pe_callB (id := "sorted") cr_sortedS (by rfl) T.n_sorted (by decide +kernel) (pa_cons (pv 3) pa_nil)) (pv 1) (nomark _))))))))), ?_⟩
    refine run_P h fun Ps P hT e => ?_
    obtain ⟨d, rfl, hsh, rfl⟩ := hT
    let pb : Bool := prsD d
    refine ok_ifK (ext_of (r1 := []) (b := !pb) (et_not (et_test (ev_call (ea_cons (ev_var rfl) ea_nil) ⟨d, rfl, hsh, rfl⟩))) ⟨fun h => ok_retSeq (ex_of ev_bl ?_), fun h => ok_nextSeq ?_⟩)
    · show rBl false = rBl _
      have h := not_eq h
      have : cpB d = false := by
        cases d with
        | tuple ds =>
          show (prsB ds && _) = false
          rw [show prsB ds = false from h]; rfl
        | _ => rfl
      rw [this]
    have h : prsD d = true := not_eq' h
    clear_value pb
    obtain ⟨ds, rfl⟩ : ∃ ds, d = .tuple ds := by
      cases d with
      | tuple ds => exact ⟨ds, rfl⟩
      | _ => cases h
    have hprs : prsB ds = true := h
    obtain ⟨hzl, hsp⟩ := hsh ds rfl
    have evT : ∀ {s' : Sls} {r' : Rs}, s'[0]? = some (some (rVd K (.tuple ds))) → Ev s' r' (tVar 0) (rTs K (ds.map (rDq K))) r' := fun h => ev_dTs (Ev.imp (ev_var h) vd_dq) hzl
    have hds := prs_eq hprs
    have hpr := prs_cs hprs
    have hcp : cpB (.tuple ds) = goodB (csD ds) := by show (prsB ds && _) = _; rw [hprs]; rfl
    generalize csD ds = cs at *
    subst hds
    have evP : ∀ {s' : Sls} {r' : Rs}, s'[0]? = some (some (rVd K (.tuple (cs.map dPr)))) → Ev s' r' (tVar 0) (rTs K (cs.map (rPair K))) r' := fun {s' r'} h => (evT h).imp fun G v ⟨z, a, vs, e, hs, al⟩ => ⟨by rw [List.length_map, List.length_map] at z; rw [List.length_map]; exact z, a, vs, e, hs, by rw [List.map_map] at al; exact all2_impR (fun c G v h => dq_pairs G v h) al⟩
    have en : (cs.map fun c => rStr c.1) = (cs.map (·.1)).map rStr := by rw [List.map_map]; rfl
    refine ok_seq1 (ok_asg (ev_lcM K (fun c : Str × Option Str => rStr c.1) (ei_tup (evP rfl)) fun _ c hx => ⟨_, _, bg1, all_in, ev_ixT0 0 (Ps := [rStr c.1, rOpt rStr c.2]) (ev_var rfl) rfl⟩) ⟨rfl, rfl⟩) ?_
    rw [en]
    have ok_z : ∀ z ∈ cs.map (·.1), PyData.strOk z = true := fun z hz => by
      obtain ⟨c, h1, rfl⟩ := List.mem_map.mp hz
      exact (made_ok (hpr.nm c h1)).1
    have ln : (cs.map (·.1)).length ≤ 6 := by rw [List.length_map]; exact hpr.z
    have onm : ∀ z ∈ once [] (cs.map (·.1)), z ∈ cs.map (·.1) := once_sub _
    have onl : (once [] (cs.map (·.1))).length ≤ 6 := Nat.le_trans (once_len _) ln
    refine ok_ifK (ext_or (ext_test (ex_op2 (EvX.imp (ex_sortedSet (ea_cons (ev_var rfl) ea_nil) (by omega) (Nat.lt_of_le_of_lt (Nat.succ_le_succ ln) (by decide))) ?srt))))
    case srt =>
      rintro P' r'' ⟨ys, pm, so, rfl, rfl⟩
      have hdec : decide (ys = cs.map (·.1)) = strictB (cs.map (·.1)) := by
        rw [← strict_iff pm so (once_nd _ _ List.nodup_nil)]
        exact decide_eq_decide.mpr ⟨Eq.symm, Eq.symm⟩
      refine ex_of (ev_var rfl) ⟨_, rv_neLS2 (fun z hz => ok_z z (onm z (pm.mem_iff.mp hz))) ok_z, _, rfl, fun h => ?_, fun h => ?_⟩
      · refine ⟨fun _ => ok_retSeq (ex_of ev_bl ?_), fun h => (by cases h)⟩
        rw [hdec] at h
        show rBl false = rBl _
        rw [hcp]
        show rBl false = rBl (strictB _ && _)
        rw [not_eq h]; rfl
      · rw [hdec] at h
        have hst := not_eq' h
        have nd : (cs.map (·.1)).Nodup := of_decide_eq_true (Bool.and_eq_true_iff.mp hst).2
        refine ext_of (r1 := []) (et_not (et_test (ev_all (bs := cs.map fun c => match c.2 with | none => true | some z => decide (z ∈ cs.map (·.1))) (ea_cons ?_ ea_nil)))) ⟨fun h => ok_retSeq (ex_of ev_bl ?_), fun h => ok_nextSeq ?_⟩
        · rw [show List.map rBl (List.map (fun c : Str × Option Str => match c.2 with | none => true | some z => decide (z ∈ cs.map (·.1))) cs) = List.map (fun c : Str × Option Str => rBl (match c.2 with | none => true | some z => decide (z ∈ cs.map (·.1)))) cs from by rw [List.map_map]; rfl]
          refine ev_lcM K (R := rPair K) (xs := cs) (fun c : Str × Option Str => rBl (match c.2 with | none => true | some z => decide (z ∈ cs.map (·.1)))) (ei_tup (evP rfl)) fun _ c hx => ⟨_, _, bg1, all_in, ?_⟩
          obtain ⟨z, o⟩ := c
          cases o with
          | none => exact (ev_orV (b := true) (ev_isN0 (ev_ixT0 1 (Ps := [rStr z, rNon]) (ev_var rfl) rfl)) fun h => by cases h)
          | some z2 => exact (ev_orV (ev_isN1 (ev_ixT0 1 (Ps := [rStr z, rStr z2]) (ev_var rfl) rfl) nn_str) fun _ => ev_inLS2 (ev_ixT0 1 (Ps := [rStr z, rStr z2]) (ev_var rfl) rfl) (ev_var rfl)).to rfl
        · show rBl false = rBl _
          rw [hcp]
          have h := not_eq h
          rw [List.all_map] at h
          have h : folB cs = false := h
          show rBl false = rBl (strictB _ && (folB cs && freeB cs))
          rw [h]; rw [Bool.false_and, Bool.and_false]
        · have h := not_eq' h
          rw [List.all_map] at h
          have fo : folB cs = true := h
          have hT : cpB (.tuple (cs.map dPr)) = freeB cs := by
            rw [hcp]
            show (strictB _ && (folB cs && freeB cs)) = _
            rw [hst, fo]; rfl
          rw [hT]
          refine ok_seq1 (ok_asg (ev_lst K (Ps := [].map rStr) ea_nil) ⟨rfl, rfl⟩) ?_
          let names := cs.map (·.1)
          refine ok_seq (fun s' r' => Lo [some (rVd K (.tuple (cs.map dPr))), some (rLs K (names.map rStr)), none, some (rLs K ((kn cs names.length).map rStr)), none] s' ∧ r' = []) (ok_forM (R := rStr) (xs := names) (fun pre s' r' => Lo [some (rVd K (.tuple (cs.map dPr))), some (rLs K (names.map rStr)), none, some (rLs K ((kn cs pre.length).map rStr)), none] s' ∧ r' = []) (ei_list (ev_var rfl)) ⟨.keep (.keep (.skip (.keep (.skip .nil)))), rfl⟩ ?_ fun s' r' h => h) ?_
          · rintro _ pre x suf hm s' r' ⟨hl, rfl⟩
            refine ⟨_, _, bg1, ?_⟩
            refine Ok.lo (s' := ([some (rVd K (.tuple (cs.map dPr))), some (rLs K (names.map rStr)), none, some (rLs K ((kn cs pre.length).map rStr)), some (rStr x)] : Sls)) ?_ (Lo.set 4 hl)
            refine ok_asg (ev_lcF K (R := rPair K) (xs := cs) (fun c : Str × Option Str => rStr c.1) (fun c => match c.2 with | none => true | some y => decide (y ∈ kn cs pre.length)) (ei_tup (evP rfl)) fun _ c hx => ⟨_, _, bg1, all_in, ?_, fun _ => ev_ixT0 0 (Ps := [rStr c.1, rOpt rStr c.2]) (ev_var rfl) rfl⟩) ⟨?_, rfl⟩
            · obtain ⟨z, o⟩ := c
              cases o with
              | none => exact et_or (b := true) (et_B (ev_isN0 (ev_ixT0 1 (Ps := [rStr z, rNon]) (ev_var rfl) rfl))) fun h => by cases h
              | some z2 => exact (et_or (et_B (ev_isN1 (ev_ixT0 1 (Ps := [rStr z, rStr z2]) (ev_var rfl) rfl) nn_str)) fun _ => et_test (ev_inLS2 (ev_ixT0 1 (Ps := [rStr z, rStr z2]) (ev_var rfl) rfl) (ev_var rfl))).to rfl
            · rw [show (List.filter (fun c : Str × Option Str => match c.2 with | none => true | some y => decide (y ∈ kn cs pre.length)) cs).map (fun c => rStr c.1) = (kn cs (pre ++ [x]).length).map rStr from by
                rw [List.length_append, List.length_singleton]
                show _ = (rnd cs (kn cs pre.length)).map rStr
                unfold rnd
                rw [List.map_map]
                rfl]
              exact .keep (.keep (.skip (.keep (.skip .nil))))
          rintro s' r' ⟨hl, rfl⟩
          refine Ok.lo ?_ hl
          have knl : names.length = cs.length := List.length_map _
          have ksub : (kn cs names.length).Sublist names := by rw [kn_eq nd fo]; exact List.filter_sublist
          refine ok_retK (ex_op2 (ex_sortedS (ea_cons (ev_var rfl) ea_nil) (Nat.lt_of_le_of_lt ksub.length_le (Nat.lt_of_le_of_lt ln (by decide))) fun ys pm so => ex_of (ev_var rfl) ?_))
          have hs := sorted_sub ksub (Bool.and_eq_true_iff.mp hst).1
          have := sorted_one pm so hs
          subst this
          refine ⟨_, rv_eqLS2 (fun z hz => ok_z z (ksub.subset hz)) ok_z, ?_⟩
          show rBl _ = rBl _
          rw [← kn_all nd fo, knl]
abbrev s_law_caught : Stmt := top 104
abbrev N_law_caught : List Str := ["_law_call", "error"]
theorem sc_law_caught : FnScope N_law_caught ["_law_call"] (defScope s_law_caught) := ⟨rfl, rfl, rfl, by decide +kernel, rfl, by decide +kernel, by decide +kernel⟩
theorem ok_law_caught {cK : Addr} (C : TxC85 K mg A cK) {oc : Value} {od an : Option Addr} {kV doc pm cdv ct : Value} {osl : Array (Option Value)} {g : Addr} (hm : mg "_law_caught" = some (.ref g)) (hk : PySem.W.keepIn K (.ref g) = true)
    (lk : K.lookup g = some ⟨oc, od, .func (PySem.W.fnOf "_law_caught" "_law_caught" (defArgs s_law_caught) (defBody s_law_caught) (defScope s_law_caught) .none kV doc pm an cdv ct), osl⟩) (cd : PySem.W.codeIn K cdv "_law_caught" = true)
    (bnd : L2.Binds K (PySem.W.fnOf "_law_caught" "_law_caught" (defArgs s_law_caught) (defBody s_law_caught) (defScope s_law_caught) .none kV doc pm an cdv ct) ["_law_call"] []) : CatD K mg "_law_caught" "_law_call" (cTb85 A) := by
  refine ⟨g, N_law_caught, _, _, _, _, _, _, _, _, _, _, _, _, _, hm, hk, lk, cd, bnd, sc_law_caught, rfl, Or.inl rfl, fun X q hK hmg => ?_⟩
  subst hK hmg
  intro f c' s H Q tl act hc h
  have nd := sc_law_caught.nd
  have two : ∀ f : Addr, (L2.start N_law_caught [V.ref f])[0]? = some (some (V.ref f)) := fun _ => rfl
  refine ⟨_, pss_one (S1.ps_try_cla (X := (cxOf C8.CX0 X.prog X.w X.K X.mg X.base N_law_caught "_law_caught" (defScope s_law_caught) g cdv X.A X.stack s H C8.E0).nox) (i := 1) (n := "error")
    (tb := fun W D σ H => ∃ Ech : XK, (∀ cls d σ' H', Ech cls d H' → W cls d σ' H') ∧ σ[0]? = some (some (.ref f)) ∧ H c' = some (LamX.CodeO c' q) ∧ tl Ech H (fun v H' => 2 ≤ sizeLine ∧ ∀ p, H' p = none → D.rt (.ref p) (upd H' p (.tup [.str "told", v]))))
    rfl rfl nd rfl rfl (fun W pn xe tk po => ?_) (.as ⟨rfl, by decide, .inl C.g1⟩ (fun a oe cls d pn hz hf => pss_one (ps_ret (pe_tup (pa_cons pe_str (pa_cons (pe_xf C.f1 C.v1 hz hf (pv 1)) pa_nil))))) (.as ⟨rfl, by decide, .inl C.g2⟩ (fun a oe cls d pn hz hf => pss_one (ps_ret (pe_tup (pa_cons pe_str (pa_cons (pe_xf C.f2 C.v2 hz hf (pv 1)) pa_nil))))) (.no ⟨rfl, by decide, .inl C.g6⟩ (fun a oe cls d pn hz hf => pss_one (ps_ret (pe_tup (pa_cons pe_str (pa_cons pe_non pa_nil))))) .nil)))), ?_⟩
  · refine ⟨fun pins s' σ H' D I h' => ?_⟩
    obtain ⟨Ech, hW, h1, h2, h3⟩ := h'
    exact (pss_one (ps_ret (pe_tup (pa_cons pe_str (pa_cons (act W pn xe Ech _ _ tk hW) pa_nil))))).run pins s' σ H' D I ⟨h1, h2, h3⟩
  · refine ⟨eCau (cTb85 A) Q, fun cls d σ' H' he => ?_, two f, hc, h⟩
    obtain ⟨Cc, z, dd, v, hmem, rfl, rfl, hd, hQ⟩ := he
    rcases List.mem_cons.mp hmem with e | hmem
    · cases e
      exact ⟨true, C.m11, fun _ hl a _ => cau_suite hl hd hQ, fun h => (by cases h)⟩
    rcases List.mem_cons.mp hmem with e | hmem
    · cases e
      exact ⟨false, C.m21, fun h => (by cases h), fun _ => ⟨true, C.m22, fun _ hl a _ => cau_suite hl hd hQ, fun h => (by cases h)⟩⟩
    cases hmem
abbrev s_law_right : Stmt := top 105
abbrev N_law_right : List Str := ["_law_pot_here", "_law_rows", "_law_value", "_law_some", "_law_unit", "_law_is_unit", "_law_told", "_law_word", "_law_keeper"]
theorem sc_law_right : FnScope N_law_right ["_law_pot_here"] (defScope s_law_right) := ⟨rfl, rfl, rfl, by decide +kernel, rfl, by decide +kernel, by decide +kernel⟩
theorem ok_law_right (T : TxK K mg A) (T2 : TxE P K mg A) (D_law_copies : CalF P w K mg base CX0 4 "_law_copies" ["_law_pot_here", "_law_most"] (spM (S_copies7 K))) (D_law_spoilt : CalF P w K mg base CX0 4 "_law_spoilt" ["_law_pot_here", "_law_rows"] (spM (S_spoilt K))) (D_law_draw : CalF P w K mg base CX0 1 "_law_draw" ["_law_pot_here", "_law_many"] (spM S_draw)) (D_law_any : CalF P w K mg base CX0 2 "_law_any" ["_law_pot_here", "_law_items"] (spM (S_any K))) (D_law_caught : CatD K mg "_law_caught" "_law_call" (cTb85 A)) (D_Keeper_kp : CalKM P w K mg base (L2.CX P w) A.c_Keeper 10 "Keeper" ["self", "copies", "piece"] 1 ["piece"] (fun vs zs => vs ++ zs) (spR (S_Keep85 A K))) (D_Keeper_kc : CalKM P w K mg base (L2.CX P w) A.c_Keeper 10 "Keeper" ["self", "copies", "piece"] 0 ["piece", "copies"] (fun vs zs => vs ++ zs.reverse) (spR (S_Keep85 A K))) (D_law_are_copies : CalF P w K mg base CX0 3 "_law_are_copies" ["_law_thing"] (spP fun Ps P => ∃ d, Ps = [rVd K d] ∧ ShV d ∧ P = rBl (cpB d))) (D_Keeper : CalJ P w K mg base (L2.CX P w) A.c_Keeper 10 "Keeper" ["self", "copies", "piece"] [.int 4] (spR (S_Keep85 A K))) (D_Keeper_copies : CalP P w K mg base CX0 A.c_Keeper 1 "copies" (spM (S_Kget A K fun cs Pp t n k1 P => P = rTq (pairsP K (csP cs))))) (D_Keeper_piece : CalP P w K mg base CX0 A.c_Keeper 1 "piece" (spM (S_Kget A K fun cs Pp t n k1 P => P = Pp))) (D_Keeper_now : CalP P w K mg base CX0 A.c_Keeper 1 "now" (spM (S_Kget A K fun cs Pp t n k1 P => P = rInt t))) (D_Keeper_answers : CalP P w K mg base CX0 A.c_Keeper 1 "answers" (spM (S_Kget A K fun cs Pp t n k1 P => P = rTs K []))) (D_Keeper_open_asks : CalP P w K mg base CX0 A.c_Keeper 1 "open_asks" (spM (S_Kget A K fun cs Pp t n k1 P => ∃ op : List Int, k1.map (·.1) = op.map Sum.inl ∧ op.Pairwise (· ≤ ·) ∧ P = rTs K (op.map rInt)))) (D_Keeper_groups : CalM P w K mg base CX0 A.c_Keeper 10 "groups" ["self"] (spM (S_Kget A K fun cs Pp t n k1 P => P = rTs K [])))  {c : Addr} (TB : LamX.TabB base mg c T0) {f : Addr} {fd : FuncData} (F : FunC K "_law_right" "_law_right" (defArgs s_law_right) (defBody s_law_right) (defScope s_law_right) c f fd) : S1.FnG P w K mg base CX0 15 f fd ["_law_pot_here"] (spM (S_right85 A T0)) := by
  refine fnG_ofC F sc_law_right (fun vs H Q E h => len_M h (fun Ps r Φ hT => by first | (obtain ⟨_, rfl, _⟩ := hT; rfl) | (obtain ⟨_, _, rfl, _⟩ := hT; rfl) | (obtain ⟨_, _, _, rfl, _⟩ := hT; rfl) | (obtain ⟨_, _, _, _, rfl, _⟩ := hT; rfl) | (obtain ⟨_, _, _, _, _, rfl, _⟩ := hT; rfl) | (obtain ⟨_, _, _, _, _, _, rfl, _⟩ := hT; rfl) | (obtain ⟨_, _, _, _, _, _, _, rfl, _⟩ := hT; rfl) | (obtain ⟨_, _, _, _, _, _, _, _, rfl, _⟩ := hT; rfl) | (obtain ⟨rfl, _⟩ := hT; rfl))) (fun A0 outer s H vs Q E gd hr h => ?_)
  · have nd := sc_law_right.nd
    have hu := hu_of hr
    refine ⟨_, PSs.nox (pss_cons (ps_set (i := 1) nd rfl (by first | exact Or.inl rfl | exact Or.inr rfl) (pe_cF D_law_copies pass0 hr rfl (pa_cons (pv 0) (pa_cons pe_int pa_nil))))
      (pss_cons (ps_set (i := 2) nd rfl (by first | exact Or.inl rfl | exact Or.inr rfl) (pe_cF D_law_spoilt pass0 hr rfl (pa_cons (pv 0) (pa_cons (pv 1) pa_nil))))
      (pss_cons (ps_set (i := 3) nd rfl (by first | exact Or.inl rfl | exact Or.inr rfl) (pe_lst (pa_cons pe_int (pa_cons pe_int (pa_cons pe_int (pa_cons pe_int (pa_cons pe_int (pa_cons (pe_op op_add pe_int (pe_cF D_law_draw pass0 hr rfl (pa_cons (pv 0) (pa_cons pe_int pa_nil)))) (pa_cons pe_int (pa_cons pe_int (pa_cons (pe_un un_neg pe_int) (pa_cons pe_bl (pa_cons pe_bl (pa_cons pe_non (pa_cons pe_str (pa_cons (pe_tup (pa_cons pe_int pa_nil)) (pa_cons (pe_op op_powW pe_int pe_int) (pa_cons (pe_lst (pa_cons pe_int pa_nil)) (pa_cons pe_dnewK pa_nil)))))))))))))))))))
      (pss_cons (ps_set (i := 4) nd rfl (by first | exact Or.inl rfl | exact Or.inr rfl) (pe_cF D_law_any pass0 hr rfl (pa_cons (pv 0) (pa_cons (pv 3) pa_nil))))
      (pss_cons (ps_set (i := 5) nd rfl (by first | exact Or.inl rfl | exact Or.inr rfl) (pe_and (pe_callB (id := "isinstance") (r := rIsi K) call_isi (by rfl) T2.n_isinstance (by decide +kernel) (pa_cons (pv 4) (pa_cons (pe_bltn (by rfl) T2.n_int (by decide +kernel) (u := .type "int") (v := .ty "int") rfl) pa_nil))) (pe_and (pe_not (pe_callB (id := "isinstance") (r := rIsi K) call_isi (by rfl) T2.n_isinstance (by decide +kernel) (pa_cons (pv 4) (pa_cons (pe_bltn (by rfl) T2.n_bool (by decide +kernel) (u := .type "bool") (v := .ty "bool") rfl) pa_nil)))) (pe_one (pe_chain op_lt op_lt pe_int (pv 4) pe_int)))))
      (pss_cons (ps_set (i := 6) nd rfl (by first | exact Or.inl rfl | exact Or.inr rfl) (pe_lst (pa_cons (pe_lam D_law_caught TB rfl hr (LamX.lamS_by (sc := defScope s_law_right) (by decide +kernel)) rfl (k := 11) (by decide) rfl (fun _ _ _ _ _ => rfl) (fun A1 outer1 s1 H1 E1 f1 c1 hr => (pe_cKM D_Keeper_kp passL hr rfl (pa_cons (pv 2) pa_nil) (pk_cons (pv 4) pk_nil)))) pa_nil)))
      (pss_cons (ps_expr (pe_bm PySem.F.plainAttrs_list PySem.F.slot_list_append PySem.F.type_list_append mt_append (pv 6) (pa_cons (pe_lam D_law_caught TB rfl hr (LamX.lamS_by (sc := defScope s_law_right) (by decide +kernel)) rfl (k := 11) (by decide) rfl (fun _ _ _ _ _ => rfl) (fun A1 outer1 s1 H1 E1 f1 c1 hr => (pe_cKM0 D_Keeper_kc passL hr rfl (pk_cons (pv 4) (pk_cons (pv 2) pk_nil))))) pa_nil)))
      (pss_cons (ps_if (pt_not (pt_val (pe_cF D_law_are_copies pass0 hr rfl (pa_cons (pv 2) pa_nil)))) (pss_one (ps_ret (pe_cmpR op_eq (pe_callB (id := "repr") (call_reprQ gd hr.units) (by rfl) T.n_repr (by decide +kernel) (pa_cons (pv 6) pa_nil)) (pe_callB (id := "repr") (call_reprQ gd hr.units) (by rfl) T.n_repr (by decide +kernel) (pa_cons (pe_op op_rep (pe_lst (pa_cons (pe_tup (pa_cons pe_str (pa_cons (pv 2) pa_nil))) pa_nil)) pe_int) pa_nil)) (nomark _)))) pss_nil)
      (pss_cons (ps_if (pt_not (pt_val (pv 5))) (pss_one (ps_ret (pe_cmpR op_eq (pe_callB (id := "repr") (call_reprQ gd hr.units) (by rfl) T.n_repr (by decide +kernel) (pa_cons (pv 6) pa_nil)) (pe_callB (id := "repr") (call_reprQ gd hr.units) (by rfl) T.n_repr (by decide +kernel) (pa_cons (pe_op op_rep (pe_lst (pa_cons (pe_tup (pa_cons pe_str (pa_cons (pv 4) pa_nil))) pa_nil)) pe_int) pa_nil)) (nomark _)))) pss_nil)
      (pss_cons (ps_for PassesOwn.never rfl (pi_list (pe_op op_cat (pv 6) (pe_lst (pa_cons (pe_lam D_law_caught TB rfl hr (LamX.lamS_by (sc := defScope s_law_right) (by decide +kernel)) rfl (k := 11) (by decide) rfl (fun _ _ _ _ _ => rfl) (fun A1 outer1 s1 H1 E1 f1 c1 hr => (pe_cJ D_Keeper passN hr rfl (pa_cons (pv 2) pa_nil)))) pa_nil)))) (pg_tup rfl (pgs_cons (pg_name (i := 7) nd rfl (by first | exact Or.inl rfl | exact Or.inr rfl)) (pgs_cons (pg_name (i := 8) nd rfl (by first | exact Or.inl rfl | exact Or.inr rfl)) pgs_nil))) (pss_cons (ps_if (PW.pt (pw_or (pt_cmpR op_ne (pv 7) pe_str (nomark _)) (pw_or (pt_cmpR (op_neD hr.units) (pe_cP D_Keeper_copies pass0 hr (pv 8)) (pv 2) (nomark _)) (pw_or1 (pt_cmpR (r := rIn K true) op_notIn_seq (pe_cP D_Keeper_piece pass0 hr (pv 8)) (pe_tup (pa_cons (pv 4) (pa_cons pe_int pa_nil))) rfl))))) (pss_one (ps_ret pe_bl)) pss_nil)
      (pss_one (ps_if (pt_cmpR (op_neD hr.units) (pe_lst (pa_cons (pe_cP D_Keeper_now pass0 hr (pv 8)) (pa_cons (pe_cP D_Keeper_answers pass0 hr (pv 8)) (pa_cons (pe_cP D_Keeper_open_asks pass0 hr (pv 8)) (pa_cons (pe_cM0 D_Keeper_groups pass0 hr (pv 8)) pa_nil))))) (pe_lst (pa_cons pe_int (pa_cons (pe_tup pa_nil) (pa_cons (pe_tup pa_nil) (pa_cons (pe_tup pa_nil) pa_nil))))) (nomark _)) (pss_one (ps_ret pe_bl)) pss_nil))))
      (pss_one (ps_ret (pe_and (pe_cmpR (op_eqD hr.units) (pe_lc (own := [("_law_word", 7), ("_law_keeper", 8)]) (g := (gTup K 2 (gCons (gName 7) (gCons (gName 8) gNil)))) (tt := tYes) rfl nd (pi_list (pv 6)) (blkOk_by (N := N_law_right) (sc := defScope s_law_right) (own := [("_law_word", 7), ("_law_keeper", 8)]) (by decide +kernel)) (fun _ _ _ _ _ => (pg_tup rfl (pgs_cons (pg_name (i := 7) nd rfl (by first | exact Or.inl rfl | exact Or.inr rfl)) (pgs_cons (pg_name (i := 8) nd rfl (by first | exact Or.inl rfl | exact Or.inr rfl)) pgs_nil)))) (fun _ _ _ _ _ => pts_nil) (fun _ _ _ _ _ => (pe_cP D_Keeper_piece pass0 hr (pv 8)))) (pe_lst (pa_cons (pv 4) (pa_cons (pv 4) pa_nil))) (nomark _)) (pe_one (pe_cmpR op_eq (pe_cP D_Keeper_piece pass0 hr (pe_cJ D_Keeper passN hr rfl (pa_cons (pv 2) pa_nil))) pe_int (nomark _)))))))))))))))), ?_⟩
    refine run_M h fun Ps r Φ hT e => ?_
    obtain ⟨p, B, rfl, rfl, hB, rfl⟩ := hT
    let tb : Addr × Co := (T0, cTab (tq "_law_right"))
    refine ok_asgK (EvX.imp (ex_callK [(p, cPot B)] [tb] (ea_cons (ev_var rfl) (ea_cons ev_int ea_nil)) ⟨p, 7, B, rfl, rfl, by decide, by decide, by omega, rfl⟩ (Ω := fun P r' => ∃ cs, P = rTq (pairsP K (csP cs)) ∧ CsRow cs ∧ r' = [(p, cPot (B + 40)), tb]) ?a1) ?_)
    case a1 =>
      rintro P r' ⟨cs, rfl, h, rfl⟩
      exact ⟨cs, rfl, h, rfl⟩
    rintro P r' ⟨cs0, rfl, hrow, rfl⟩
    refine ok_asgK (EvX.imp (ex_callK [(p, cPot (B + 40))] [tb] (ea_cons (ev_var rfl) (ea_cons (ev_var rfl) ea_nil)) ⟨p, cs0, B + 40, rfl, hrow, rfl, by omega, rfl⟩ (Ω := fun P r' => ∃ d, P = rVd K d ∧ ShV d ∧ FineN 2000 10 d ∧ r' = [(p, cPot (B + 44)), tb]) ?a2) ?_)
    case a2 =>
      rintro P r' ⟨d, rfl, h1, h2, rfl⟩
      exact ⟨d, rfl, h1, h2, by rw [show B + 40 + 4 = B + 44 by omega]; rfl⟩
    rintro P r' ⟨d, rfl, hsh, hfd, rfl⟩
    let us : Int → List PyData := fun x => [.int 1, .int 2, .int 4, .int 63, .int 64, .int (1 + x), .int 0, .int 65, .int (-1), .bool true, .bool false, .none, .str "4", .tuple [.int 4], .int (10 ^ 30), .list [.int 4], .dict []]
    refine ok_asgK (EvX.imp (Φ := fun P r' => ∃ x : Int, 0 ≤ x ∧ x < 64 ∧ P = rLp ((us x).map (rDq K)) ∧ r' = [(p, cPot (B + 45)), tb]) (ex_lstPX (exa_cons1 (P := rDq K (.int _)) ev_cI (exa_cons1 (P := rDq K (.int _)) ev_cI (exa_cons1 (P := rDq K (.int _)) ev_cI (exa_cons1 (P := rDq K (.int _)) ev_cI (exa_cons1 (P := rDq K (.int _)) ev_cI (exa_cons (ex_op2 (ex_of ev_int (ex_callK [(p, cPot (B + 44))] [tb] (ea_cons (ev_var rfl) (ea_cons ev_int ea_nil)) ⟨p, 64, B + 44, rfl, rfl, by decide, by decide, by omega, rfl⟩ ?dr)))))))))) ?_)
    case dr =>
      rintro P r' ⟨x, rfl, ⟨x0, x1⟩, rfl⟩
      refine ⟨rDq K (.int (1 + x)), rv_imp rv_add (fun _ _ h => h) (fun _ _ h => h) q_int, exa_of (ea_cons ev_cI (ea_cons ev_cI (ea_cons (ev_dI (ev_neg ev_int)) (ea_cons ev_cB (ea_cons ev_cB (ea_cons ev_cN (ea_cons ev_cS (ea_cons (ev_tupD (ds := [.int 4]) (ea_cons ev_cI ea_nil)) (ea_cons (ev_dI (ev_opI (f := rI (fun i j => 0 ≤ j ∧ (Builtin.Int.intBits i : Int) * j ≤ 2 ^ 27) fun i j => .int (i ^ j.toNat)) (C := fun i j => 0 ≤ j ∧ (Builtin.Int.intBits i : Int) * j ≤ 2 ^ 27) (g := fun i j => .int (i ^ j.toNat)) (i := 10) (j := 30) (R := rInt (10 ^ 30)) ev_int ev_int rfl (by decide +kernel) (fun _ => rfl))) (ea_cons (ev_lstD (ds := [.int 4]) (ea_cons ev_cI ea_nil)) (ea_cons ev_dctD ea_nil))))))))))) ⟨by show 17 ≤ 1000; decide, x, x0, x1, rfl, by rw [show B + 44 + 1 = B + 45 by omega]; rfl⟩⟩
    rintro P r' ⟨x, x0, x1, rfl, rfl⟩
    refine ok_asgK (EvX.imp (ex_callK [(p, cPot (B + 45))] [tb] (ea_cons (ev_var rfl) (ea_cons (ev_lp (ev_var rfl)) ea_nil)) ⟨p, _, B + 45, rfl, rfl, by omega, .inl ⟨_, rfl, (by show 1 ≤ 17; decide), (by show 17 < 1000; decide), rfl⟩⟩ (Ω := fun P r' => ∃ u, P = rDq K u ∧ FineN 1000 20 u ∧ r' = [(p, cPot (B + 46)), tb]) ?a3) ?_)
    case a3 =>
      rintro P r' ⟨hP, rfl⟩
      obtain ⟨u, hu, rfl⟩ := List.mem_map.mp hP
      refine ⟨u, rfl, ?_, by rw [show B + 45 + 1 = B + 46 by omega]; rfl⟩
      simp only [us, List.mem_cons, List.not_mem_nil, or_false] at hu
      rcases hu with rfl | rfl | rfl | rfl | rfl | rfl | rfl | rfl | rfl | rfl | rfl | rfl | rfl | rfl | rfl | rfl | rfl
      case inr.inr.inr.inr.inr.inl =>
        have f := fine_int (i := 1 + x) (by omega) (by omega)
        exact ⟨f.l, f.w, Nat.le_trans f.dp (by decide), f.s⟩
      all_goals exact fineN_by (by decide +kernel)
    rintro P r' ⟨u, rfl, hfu, rfl⟩
    let R0 : Rs := [(p, cPot (B + 46)), tb]
    refine ok_seq1 (r' := R0) (ok_asg (P := rBl (pieceB u)) ?isu ⟨rfl, rfl⟩) ?_
    case isu =>
      by_cases hd : ∃ i, u = .int i
      · obtain ⟨i, rfl⟩ := hd
        exact ((ev_andV (ev_isiD (ea_cons (ev_var rfl) (ea_cons ev_cV ea_nil)) (kI (.int i))) fun _ => ev_andV (ev_notV (ev_isiD (ea_cons (ev_var rfl) (ea_cons ev_cV ea_nil)) (kB (.int i)))) fun _ => ev_chain (k' := 65) ev_int (ev_dInt (ev_var rfl)) (fun H W w => ⟨_, _, rfl, rfl, w⟩) (fun _ => ev_int) (fun H W w => ⟨_, _, rfl, rfl, w⟩)).to (by rw [← isI_piece]; rfl))
      · have h1 : pieceB u = false := by cases u <;> first | rfl | exact absurd ⟨_, rfl⟩ hd
        rw [h1]
        cases hI : isI u with
        | false => exact ((ev_andV (a := false) (b := false) ((ev_isiD (ea_cons (ev_var rfl) (ea_cons ev_cV ea_nil)) (kI u)).to (by rw [hI])) fun h => by cases h).to rfl)
        | true =>
          have hB : isB u = true := by cases u <;> first | rfl | (cases hI; done) | exact absurd ⟨_, rfl⟩ hd
          exact ((ev_andV (b := false) (ev_isiD (ea_cons (ev_var rfl) (ea_cons ev_cV ea_nil)) (kI u)) fun _ => (ev_andV (a := false) (b := false) ((ev_notV (ev_isiD (ea_cons (ev_var rfl) (ea_cons ev_cV ea_nil)) (kB u))).to (by rw [hB]; rfl)) fun h => by cases h).to rfl).to (by rw [Bool.and_false]))
    let Out : Rs → Pr → Rs → Prop := fun R P r' => (cpB d = true ∧ pieceB u = true ∧ ∃ ds k, d = .tuple ds ∧ CsGood (csD ds) ∧ P = rTs K [rStr "told", rAt k] ∧ r' = (k, cKee A K (csD ds) (rDq K u) 0 0 []) :: R) ∨ ((cpB d = false ∧ P = rDq K (.tuple [.str "copies", d]) ∨ cpB d = true ∧ pieceB u = false ∧ P = rDq K (.tuple [.str "piece", u])) ∧ r' = R)
    have lam : ∀ {s : Sls} {R pre post : Rs} {n m : Nat} {gV : List V → List V → List V} {t tk : TA} (Ps Zs : List Pr), R = pre ++ tb :: post → EvA s R t Ps R → EvA s R tk Zs R → Ps.length = n → Zs.length = m → (∀ G x vs zs, (rAt x).p G (.ref x) → All2 G vs Ps → All2 G zs Zs → All2 G (gV (.ref x :: vs) zs) [rAt x, rVd K d, rDq K u]) →
        EvX s R (S1.tLamC T0 (tq "_law_right") (TTc (cTb85 A)) (fun E => tMakeK A.c_Keeper n m (spR (S_Keep85 A K)) gV E t tk)) (Out R) := fun {s R pre post n m gV t tk} Ps Zs hR hP hZ hn hm hg => by
      refine EvX.dropK (Φ := fun P r' => ∃ r0 junk, r'.Perm (r0 ++ junk) ∧ Out R P r0) (ex_lamG (K := K) (tbl := cTb85 A) pre post hR (Φ := fun P r' => cpB d = true ∧ pieceB u = true ∧ ∃ ds k, d = .tuple ds ∧ CsGood (csD ds) ∧ P = rAt k ∧ r' = (k, cKee A K (csD ds) (rDq K u) 0 0 []) :: R)
        (Ψ := fun C P r' => ∃ x, r' = (x, cOb A.c_Keeper [] []) :: R ∧ (C = A.c_BadCopies ∧ P = rVd K d ∧ cpB d = false ∨ C = A.c_BadPiece ∧ P = rDq K u ∧ cpB d = true ∧ pieceB u = false)) (fun e E hx => ?call) ?ok ?err) fun P r1 ⟨r0, junk, pm, o⟩ => ⟨r0, junk, pm, o⟩
      case call =>
        refine EvXe.imp (ex_makeKR [rVd K d, rDq K u] [] R hP hZ hn hm hg (fun x => ⟨x, d, u, rfl, hsh, rfl, rfl, rfl⟩) (fun x P r' h => h.1) hx fun x D P r' h => ⟨x, by rw [h.2]; rfl, h.1⟩) ?_
        rintro P r' ⟨k, r1, rfl, ⟨_, h1, h2, ds, h3, h4, rfl⟩, rfl⟩
        exact ⟨h1, h2, ds, k, h3, h4, rfl, rfl⟩
      case ok =>
        rintro P r' ⟨h1, h2, ds, k, h3, h4, rfl, rfl⟩
        exact ⟨_, [], by rw [List.append_nil], .inl ⟨h1, h2, ds, k, h3, h4, rfl, rfl⟩⟩
      case err =>
        rintro C P r' ⟨x, rfl, h | h⟩
        · obtain ⟨rfl, rfl, h⟩ := h
          exact ⟨"copies", d, List.mem_cons_self, vd_dq, R, [(x, _)], (List.perm_append_singleton _ R).symm, .inr ⟨.inl ⟨h, rfl⟩, rfl⟩⟩
        · obtain ⟨rfl, rfl, h, h2⟩ := h
          exact ⟨"piece", u, List.mem_cons_of_mem _ List.mem_cons_self, fun _ _ h => h, R, [(x, _)], (List.perm_append_singleton _ R).symm, .inr ⟨.inr ⟨h, h2, rfl⟩, rfl⟩⟩
    have lam1 : ∀ {s : Sls} {R pre post : Rs}, R = pre ++ tb :: post → s[2]? = some (some (rVd K d)) → s[4]? = some (some (rDq K u)) → EvX s R (S1.tLamC T0 (tq "_law_right") (TTc (cTb85 A)) (fun E => tMakeK A.c_Keeper 1 1 (spR (S_Keep85 A K)) (fun vs zs => vs ++ zs) E (tCons (tVar 2) tNil) (tCons (tVar 4) tNil))) (Out R) := fun {s R pre post} hR h2 h4 =>
      lam [rVd K d] [rDq K u] hR (ea_cons (ev_var h2) ea_nil) (ea_cons (ev_var h4) ea_nil) rfl rfl fun G x vs zs px a1 a2 => .cons px (a1.app a2)
    have lam2 : ∀ {s : Sls} {R pre post : Rs}, R = pre ++ tb :: post → s[2]? = some (some (rVd K d)) → s[4]? = some (some (rDq K u)) → EvX s R (S1.tLamC T0 (tq "_law_right") (TTc (cTb85 A)) (fun E => tMakeK A.c_Keeper 0 2 (spR (S_Keep85 A K)) (fun vs zs => vs ++ zs.reverse) E tNil (tCons (tVar 4) (tCons (tVar 2) tNil)))) (Out R) := fun {s R pre post} hR h2 h4 =>
      lam [] [rDq K u, rVd K d] hR ea_nil (ea_cons (ev_var h4) (ea_cons (ev_var h2) ea_nil)) rfl rfl fun G x vs zs px a1 a2 => by
        cases a1
        exact .cons px (all2_rev a2)
    let S5 : Sls := [some (rAt p), some (rTq (pairsP K (csP cs0))), some (rVd K d), some (rLp ((us x).map (rDq K))), some (rDq K u), some (rBl (pieceB u)), none, none, none]
    refine ok_asgK (ex_newLsX (exa_cons (EvX.imp (lam1 (pre := [(p, cPot (B + 46))]) (post := []) rfl rfl rfl) fun P r1 o => exa_nil ⟨(by show 1 ≤ 1000; decide), fun l => ?_⟩)))
    have pot4 : ∀ {s : Sls} {te : TE}, Ev s R0 te (rBl true) R0 → EvX s R0 te (fun P r' => P = rBl true ∧ r' = [(p, cPot (B + 50)), tb]) := fun {s te} h => EvX.pot (p := p) (C := B + 50) (pre := []) (post := [tb]) h.x fun P r' ⟨e1, e2⟩ => ⟨B + 46, by omega, e2, e1, rfl⟩
    have same2 : ∀ {s : Sls} {z : Str} {x : PyData} {tt : TE}, s[6]? = some (some (rLp ([PyData.tuple [.str z, x], PyData.tuple [.str z, x]].map (rDq K)))) → FineN 10 0 (.str z) → FineN 50000 20 x → Ev s R0 tt (rDq K x) R0 →
        Ev s R0 (tOp rEq (tCB (S1.rReprQ K) (tCons (tVar 6) tNil)) (tCB (S1.rReprQ K) (tCons (tOp rRep (tLst (tCons (tTup (tCons (tC (.str z)) (tCons tt tNil))) tNil)) (tC (.int 2))) tNil))) (rBl true) R0 := fun {s z x tt} h6 fz fx hx => by
      have ff := fine_two fz fx (Nat.le_refl _)
      refine (ev_eqS (ev_reprL (ds := [.tuple [.str z, x], .tuple [.str z, x]]) (ea_cons (ev_var h6) ea_nil) ff.1 ff.2.1 ff.2.2) (ev_reprL (ds := [.tuple [.str z, x], .tuple [.str z, x]]) (ea_cons ((ev_rep 2 (ev_lstP (Ps := [rDq K (.tuple [.str z, x])]) (ea_cons (ev_tupD (ds := [.str z, x]) (ea_cons ev_cS (ea_cons hx ea_nil))) ea_nil)) ev_int (by decide) (by show 1 * 2 ≤ sizeLine; decide)).to rfl) ea_nil) ff.1 ff.2.1 ff.2.2)).to ?_
      rw [decide_eq_true rfl]
    rcases o with ⟨hc, hu, ds, k1, rfl, hg, rfl, rfl⟩ | ⟨he, rfl⟩
    case inr =>
      obtain ⟨z, y, hzy, hP, hz⟩ : ∃ z y, (z = ("copies" : Str) ∧ y = d ∧ cpB d = false ∨ z = ("piece" : Str) ∧ y = u ∧ cpB d = true ∧ pieceB u = false) ∧ P = rDq K (.tuple [.str z, y]) ∧ FineN 10 0 (.str z) := by
        rcases he with ⟨h, e⟩ | ⟨h, h2, e⟩
        · exact ⟨_, _, .inl ⟨rfl, rfl, h⟩, e, fineN_by (by decide +kernel)⟩
        · exact ⟨_, _, .inr ⟨rfl, rfl, h, h2⟩, e, fineN_by (by decide +kernel)⟩
      subst hP
      let dd : PyData := .tuple [.str z, y]
      refine ok_seq (fun s' r' => s' = S5.set 6 (some (rAt l)) ∧ r' = (l, cLs [rDq K dd, rDq K dd]) :: R0) (ok_appK (Ps := [rDq K dd]) (ev_var rfl) List.mem_cons_self (EvX.imp (lam2 (pre := [(l, cLs [rDq K dd]), (p, cPot (B + 46))]) (post := []) rfl rfl rfl) ?ap)) ?_
      case ap =>
        rintro P r2 (⟨hc, hu, _⟩ | ⟨he2, rfl⟩)
        · rcases hzy with ⟨_, _, h⟩ | ⟨_, _, _, h⟩
          · rw [hc] at h; cases h
          · rw [hu] at h; cases h
        · have hP : P = rDq K dd := by
            rcases hzy with ⟨rfl, rfl, h⟩ | ⟨rfl, rfl, h, h2⟩
            · rcases he2 with ⟨_, e⟩ | ⟨h', _⟩
              · exact e
              · rw [h] at h'; cases h'
            · rcases he2 with ⟨h', _⟩ | ⟨_, _, e⟩
              · rw [h] at h'; cases h'
              · exact e
          subst hP
          exact ⟨[], R0, rfl, (by show 1 < sizeLine; decide), rfl, rfl⟩
      rintro s' r' ⟨rfl, rfl⟩
      refine Ok.frz (pre := []) (post := R0) 6 rfl ?_
      refine ok_ifK (ext_of (r1 := R0) (et_not (et_test (ev_call (ea_cons (ev_var rfl) ea_nil) ⟨d, rfl, hsh, rfl⟩))) ⟨fun h => ok_retSeq (pot4 ?e1), fun h => ok_nextSeq ?_⟩)
      case e1 =>
        rcases hzy with ⟨rfl, rfl, _⟩ | ⟨_, _, h', _⟩
        · exact same2 rfl hz (hfd.mono (by decide) (by decide)) (Ev.imp (ev_var rfl) vd_dq)
        · rw [h'] at h; cases h
      refine ok_ifK (ext_of (r1 := R0) (b := !pieceB u) (et_not (et_test (ev_var rfl))) ⟨fun _ => ok_retSeq (pot4 ?e2), fun h2 => ?e3⟩)
      case e2 =>
        rcases hzy with ⟨_, _, h'⟩ | ⟨rfl, rfl, _, _⟩
        · rw [h'] at h; cases h
        · exact same2 rfl hz (hfu.mono (by decide) (by decide)) (ev_var rfl)
      case e3 =>
        exfalso
        rcases hzy with ⟨_, _, h'⟩ | ⟨_, _, _, h'⟩
        · rw [h'] at h; cases h
        · rw [h'] at h2; cases h2
    case inl =>
      obtain ⟨i0, rfl, hi0⟩ := intB_some hu
      let cs := csD ds
      let kee : Co := cKee A K cs (rDq K (.int i0)) 0 0 []
      let kee4 : Co := cKee A K cs (rDq K (.int 4)) 0 0 []
      let tk : Addr → Pr := fun k => rTs K [rStr "told", rAt k]
      have hprs : prsB ds = true := (Bool.and_eq_true_iff.mp hc).1
      have hds : ds = cs.map dPr := prs_eq hprs
      have hzl := (hsh ds rfl).1
      have evP : ∀ {s' : Sls} {r' : Rs}, s'[2]? = some (some (rVd K (.tuple ds))) → Ev s' r' (tVar 2) (rTs K (cs.map (rPair K))) r' := fun {s' r'} h => (ev_dTs (Ev.imp (ev_var h) vd_dq) hzl).imp fun G v ⟨z, a, vs, e, hs, al⟩ => by
        rw [hds, List.map_map] at al
        rw [List.length_map] at z
        exact ⟨by rw [List.length_map]; rw [hds, List.length_map] at z; exact z, a, vs, e, hs, all2_impR (fun c G v h => dq_pairs G v h) al⟩
      have hstr : ∀ c ∈ cs, PyData.strOk c.1 = true ∧ ∀ z, c.2 = some z → PyData.strOk z = true := fun c hcm => ⟨(made_ok (hg.nm c hcm)).1, fun z hz => (made_ok (hg.fo c hcm z hz).1).1⟩
      have mk3 : ∀ {s : Sls} {R : Rs}, s[2]? = some (some (rVd K (.tuple ds))) → EvX s R (tMake A.c_Keeper (spR (S_Keep85 A K)) [V.int 4] L2.E0 (tCons (tVar 2) tNil)) (fun P r' => ∃ k, P = rAt k ∧ r' = (k, kee4) :: R) := fun {s R} h2 => by
        refine ex_makeRA [rDq K (.int 4)] (fun G => .cons (.int 4) .nil) (exa_of (ea_cons (ev_var h2) ea_nil) ⟨[], R, _, _, List.Perm.refl _, fun x => ⟨x, .tuple ds, .int 4, rfl, hsh, rfl, rfl, rfl⟩, fun x D P r' h => ?_, fun x P r' h => ⟨h.1, ?_⟩⟩)
        · rcases h.1 with ⟨_, _, h⟩ | ⟨_, _, _, h⟩
          · rw [hc] at h; cases h
          · cases h
        · obtain ⟨_, _, _, ds', e, _, rfl⟩ := h
          cases e
          exact ⟨x, rfl, rfl⟩
      refine ok_seq (fun s' r' => s' = S5.set 6 (some (rAt l)) ∧ ∃ k2, r' = (k2, kee) :: (l, cLs [tk k1, tk k2]) :: (k1, kee) :: R0) (ok_appK (Ps := [tk k1]) (ev_var rfl) List.mem_cons_self (EvX.imp (lam2 (pre := [(l, cLs [tk k1]), (k1, kee), (p, cPot (B + 46))]) (post := []) rfl rfl rfl) ?ap2)) ?_
      case ap2 =>
        rintro P r2 (⟨_, _, ds', k2, e, hg', rfl, rfl⟩ | ⟨he2, rfl⟩)
        · cases e
          exact ⟨[(k2, kee)], (k1, kee) :: R0, rfl, (by show 1 < sizeLine; decide), rfl, k2, rfl⟩
        · exfalso
          rcases he2 with ⟨h, _⟩ | ⟨_, h, _⟩
          · rw [hc] at h; cases h
          · rw [hu] at h; cases h
      rintro s' r' ⟨rfl, k2, rfl⟩
      refine Ok.frz (pre := [(k2, kee)]) (post := (k1, kee) :: R0) 6 rfl ?_
      let R2 : Rs := (k2, kee) :: (k1, kee) :: R0
      let S7 : Sls := [some (rAt p), some (rTq (pairsP K (csP cs0))), some (rVd K (.tuple ds)), some (rLp ((us x).map (rDq K))), some (rDq K (.int i0)), some (rBl (pieceB (.int i0))), some (rLp [tk k1, tk k2]), none, none]
      refine ok_ifK (ext_of (r1 := R2) (b := false) ((et_not (et_test (ev_call (ea_cons (ev_var rfl) ea_nil) ⟨.tuple ds, rfl, hsh, rfl⟩))).to (by rw [hc]; rfl)) ⟨fun h => (by cases h), fun _ => ok_nextSeq ?_⟩)
      refine ok_ifK (ext_of (r1 := R2) (b := false) ((et_not (et_test (ev_var rfl))).to (by rw [hu]; rfl)) ⟨fun h => (by cases h), fun _ => ok_nextSeq ?_⟩)
      let R3 : Addr → Rs := fun k3 => (k3, kee4) :: R2
      refine ok_seq (fun s' r' => Lo S7 s' ∧ ∃ k3, r' = R3 k3) (ok_forX (ι := Addr) (L := fun k3 => [tk k1, tk k2, tk k3]) (ρ := R3) (eix_list (EvX.impP (Φ := fun P r' => ∃ k3, P = rLp [tk k1, tk k2, tk k3] ∧ r' = R3 k3) (ex_catK (ex_of (ev_var rfl) ⟨[tk k1, tk k2], rfl, ex_lstPX (exa_cons (EvX.imp (ex_lamG (K := K) (tbl := cTb85 A) [(k2, kee), (k1, kee), (p, cPot (B + 46))] [] rfl (Φ := fun P r' => ∃ k, P = rAt k ∧ r' = R3 k) (Ψ := fun _ _ _ => False) (Φ' := fun P r' => ∃ k, P = tk k ∧ r' = R3 k) (fun e E hx => EvX.at (mk3 rfl)) (fun P r' ⟨k, e1, e2⟩ => by subst e1 e2; exact ⟨k, rfl, rfl⟩) (fun C P r' h => h.elim)) ?l3))⟩)) ?i3)) (fun k3 i s' r' => Lo S7 s' ∧ r' = R3 k3) (fun k3 => ⟨Lo.refl _, rfl⟩) ?body ?done) ?fin
      case l3 =>
        rintro P r' ⟨k3, rfl, rfl⟩
        exact exa_nil ⟨(by show 1 ≤ 1000; decide), [tk k3], rfl, (by show 3 ≤ sizeLine; decide), k3, rfl, rfl⟩
      case i3 =>
        rintro P r' ⟨k3, rfl, rfl⟩
        exact ⟨rLs K [tk k1, tk k2, tk k3], ⟨k3, rfl, rfl⟩, lp_ls⟩
      case done =>
        rintro k3 s' r' ⟨hl, rfl⟩
        exact ⟨hl, k3, rfl⟩
      case body =>
        rintro k3 _ i P s' r' hP ⟨hl, rfl⟩
        have one : ∃ (kj : Addr) (j : Int) (rest : Rs), P = tk kj ∧ (j = i0 ∨ j = 4) ∧ (R3 k3).Perm ((kj, cKee A K cs (rDq K (.int j)) 0 0 []) :: rest) := by
          match i, hP with
          | 0, hP => cases hP; exact ⟨k1, i0, _, rfl, .inl rfl, rs_pick [2, 0, 1, 3, 4] rfl (by decide) rfl⟩
          | 1, hP => cases hP; exact ⟨k2, i0, _, rfl, .inl rfl, rs_pick [1, 0, 2, 3, 4] rfl (by decide) rfl⟩
          | 2, hP => cases hP; exact ⟨k3, 4, _, rfl, .inr rfl, List.Perm.refl _⟩
          | i + 3, hP => simp at hP
        obtain ⟨kj, j, rest, rfl, hj, hm⟩ := one
        refine ⟨_, _, bg2 (P := rStr "told") (Q := rAt kj), ?_⟩
        refine Ok.lo (s' := ([some (rAt p), some (rTq (pairsP K (csP cs0))), some (rVd K (.tuple ds)), some (rLp ((us x).map (rDq K))), some (rDq K (.int i0)), some (rBl (pieceB (.int i0))), some (rLp [tk k1, tk k2]), some (rStr "told"), some (rAt kj)] : Sls)) ?_ (Lo.set 8 (Lo.set 7 hl))
        refine ok_ifK (ext_of (r1 := R3 k3) (b := false) (EvT.to (et_or (et_test (ev_neS (ev_var rfl) ev_str)) fun _ => et_or (et_test (ev_neRows hstr ((ev_tq (K := K) (ev_kgetM rfl hm rfl)).to (by rw [pairs_cs]; rfl)) (evP rfl))) fun _ => et_test (ev_notInTI (ns := [i0, 4]) (ev_dInt (ev_kgetM rfl hm rfl)) (ev_tup K (ea_cons (ev_dInt (ev_var rfl)) (ea_cons ev_int ea_nil))))) ?val) ⟨fun h => (by cases h), fun _ => ok_nextSeq ?_⟩)
        case val =>
          rw [decide_eq_true rfl]
          show (!decide (j ∈ [i0, 4])) = false
          rw [decide_eq_true (by rcases hj with rfl | rfl <;> simp)]
          rfl
        refine ok_if (b := false) (r1 := R3 k3) (et_test (ev_neK0 (ev_lst K (ea_cons (ev_kgetM rfl hm rfl) (ea_cons (ev_kgetM rfl hm rfl) (ea_cons (ev_kgetM rfl hm ⟨[], rfl, .nil, rfl⟩) (ea_cons (ev_kcallM rfl hm rfl) ea_nil))))) (ev_lst K (ea_cons ev_int (ea_cons (ev_tup K ea_nil) (ea_cons (ev_tup K ea_nil) (ea_cons (ev_tup K ea_nil) ea_nil))))))) (fun h => by cases h) fun _ => ok_next ⟨?lo, rfl⟩
        exact .keep (.keep (.keep (.keep (.keep (.keep (.keep (.skip (.skip .nil))))))))
      case fin =>
        rintro s' r' ⟨hl, k3, rfl⟩
        refine Ok.lo ?_ hl
        refine ok_retK (EvX.pot (p := p) (C := B + 50) (pre := []) (post := [tb]) (Φ := fun P r' => P = rBl true ∧ r' = [(p, cPot (B + 46)), tb]) (EvX.dropK (Φ := fun P r' => P = rBl true ∧ ∃ k, r' = (k, kee4) :: R3 k3) (ex_andV (b := true) (r1 := R3 k3) (ev_eqLI (ns := [i0, i0]) (ev_lcM K (R := tk) (xs := [k1, k2]) (fun _ => rInt i0) (ei_list (ev_lp (ev_var rfl))) fun _ k hk => ⟨_, _, bg2, all_in, ?pc⟩) (ev_lst K (ea_cons (ev_dInt (ev_var rfl)) (ea_cons (ev_dInt (ev_var rfl)) ea_nil)))) (fun _ => ex_op2 (ex_propX (ns := nsKeeper) (EvX.imp (mk3 rfl) ?pk))) (fun h => by cases h)) ?dr2) ?pt)
        case pc =>
          have hk2 : k = k1 ∨ k = k2 := by simpa using hk
          rcases hk2 with rfl | rfl
          · exact ev_dInt (ev_kgetM rfl (rs_pick [2, 0, 1, 3, 4] rfl (by decide) rfl) rfl)
          · exact ev_dInt (ev_kgetM rfl (rs_pick [1, 0, 2, 3, 4] rfl (by decide) rfl) rfl)
        case pk =>
          rintro P r1 ⟨k, e1, e2⟩
          refine ⟨k, _, [(k, kee4)], R3 k3, _, e1, e2, List.mem_cons_self, ⟨k, cs, rDq K (.int 4), 0, 0, [], _, rfl, rfl, rfl, rfl⟩, ?_⟩
          rintro P r' ⟨rfl, rfl⟩
          exact ex_of ev_int ⟨_, rv_imp (rv_eqI (i := 4) (j := 4)) (fun G v => dq_int) (fun _ _ h => h) (fun _ _ h => h), by rw [decide_eq_true rfl], k, rfl⟩
        case dr2 =>
          rintro P r1 ⟨rfl, k, rfl⟩
          exact ⟨[(p, cPot (B + 46)), tb], [(k, kee4), (k3, kee4), (k2, kee), (k1, kee)], rs_pick [4, 5, 0, 1, 2, 3] rfl (by decide) rfl, rfl, rfl⟩
        case pt =>
          rintro P r' ⟨rfl, rfl⟩
          exact ⟨B + 46, by omega, rfl, rfl, rfl⟩
abbrev s_law : Stmt := top 106
abbrev N_law : List Str := ["_law_script", "_law_k", "_law_pot_here", "_law_turn"]
theorem sc_law : FnScope N_law ["_law_script"] (defScope s_law) := ⟨rfl, rfl, rfl, by decide +kernel, rfl, by decide +kernel, by decide +kernel⟩
theorem ok_law (T : TxK K mg A) (T2 : TxE P K mg A) (D_law_pot : CalF P w K mg base CX0 1 "_law_pot" ["_law_script", "_law_k"] (spM (S_pot K))) (D_law_right : CalG P w K mg base CX0 15 "_law_right" ["_law_pot_here"] (spM (S_right85 A T0)))   {f : Addr} {fd : FuncData} (F : FunD K "law" "law" (defArgs s_law) (defBody s_law) (defScope s_law) [] [] f fd) : S1.FnG P w K mg base CX0 16 f fd ["_law_script"] (spM (S_law85 K T0)) := by
  refine S1.fnG_of F sc_law (fun vs H Q E h => len_M h (fun Ps r Φ hT => by first | (obtain ⟨_, rfl, _⟩ := hT; rfl) | (obtain ⟨_, _, rfl, _⟩ := hT; rfl) | (obtain ⟨_, _, _, rfl, _⟩ := hT; rfl) | (obtain ⟨_, _, _, _, rfl, _⟩ := hT; rfl) | (obtain ⟨_, _, _, _, _, rfl, _⟩ := hT; rfl) | (obtain ⟨_, _, _, _, _, _, rfl, _⟩ := hT; rfl) | (obtain ⟨_, _, _, _, _, _, _, rfl, _⟩ := hT; rfl) | (obtain ⟨_, _, _, _, _, _, _, _, rfl, _⟩ := hT; rfl) | (obtain ⟨rfl, _⟩ := hT; rfl))) (fun cdv A0 outer s H vs Q E gd hr h => ?_)
  · have nd := sc_law.nd
    have hu := hu_of hr
    refine ⟨_, PSs.nox (pss_cons (ps_for PassesOwn.never rfl (pi_range1 rfl T.n_range (pa_cons (pe_callB (id := "max") (call_max2 rfl) (by rfl) T.n_max (by decide +kernel) (pa_cons pe_int (pa_cons (pe_callB (id := "min") (call_min2 rfl) (by rfl) T.n_min (by decide +kernel) (pa_cons pe_int (pa_cons (pe_callB (id := "len") call_len (by rfl) T.n_len (by decide +kernel) (pa_cons (pv 0) pa_nil)) pa_nil))) pa_nil))) pa_nil)) (pg_name (i := 1) nd rfl (by first | exact Or.inl rfl | exact Or.inr rfl)) (pss_cons (ps_set (i := 2) nd rfl (by first | exact Or.inl rfl | exact Or.inr rfl) (pe_cF D_law_pot pass0 hr rfl (pa_cons (pv 0) (pa_cons (pv 1) pa_nil))))
      (pss_one (ps_if (pt_not (pt_val (pe_callB (id := "all") (cr_all rfl) (by rfl) T.n_all (by decide +kernel) (pa_cons (pe_lc (own := [("_law_turn", 3)]) (g := (gName 3)) (tt := tYes) rfl nd (pi_range1 rfl T.n_range (pa_cons pe_int pa_nil)) (blkOk_by (N := N_law) (sc := defScope s_law) (own := [("_law_turn", 3)]) (by decide +kernel)) (fun _ _ _ _ _ => (pg_name (i := 3) nd rfl (by first | exact Or.inl rfl | exact Or.inr rfl))) (fun _ _ _ _ _ => pts_nil) (fun _ _ _ _ _ => (pe_cG D_law_right gd pass0 hr rfl (pa_cons (pv 2) pa_nil)))) pa_nil)))) (pss_one (ps_ret pe_bl)) pss_nil))))
      (pss_one (ps_ret pe_bl))), ?_⟩
    refine run_M h fun Ps r Φ hT e => ?_
    obtain ⟨ns, rfl, hn, rfl, rfl⟩ := hT
    let tb : Addr × Co := (T0, cTab (tq "_law_right"))
    have lr : (ns.map rInt).length = ns.length := List.length_map _
    let N : Int := if (if ((ns.length : Nat) : Int) < 3 then ((ns.length : Nat) : Int) else 3) > 1 then (if ((ns.length : Nat) : Int) < 3 then ((ns.length : Nat) : Int) else 3) else 1
    have hN : 0 ≤ N ∧ N ≤ 3 := by
      simp only [N]
      split <;> split <;> omega
    obtain ⟨M, hM⟩ := Int.eq_ofNat_of_zero_le hN.1
    let S0 : Sls := [some (rLs K (ns.map rInt)), none, none, none]
    refine ok_seq (fun s' r' => Lo S0 s' ∧ r' = [tb]) (ok_forM (R := fun (i : Nat) => rInt (i : Int)) (xs := List.range M) (fun pre s' r' => Lo S0 s' ∧ r' = [tb]) (ei_rngM (n := M) (ea_cons ((ev_max (ea_cons ev_int (ea_cons (ev_min (ea_cons ev_int (ea_cons (ev_lenL (ea_cons (ev_var rfl) ea_nil)) ea_nil))) ea_nil))).to ?nn) ea_nil) (Nat.le_trans (by omega : M ≤ 3) (by decide))) ⟨Lo.refl _, rfl⟩ ?step fun s' r' h => h) ?fin
    case nn =>
      rw [lr]
      congr 1
    case fin =>
      rintro s' r' ⟨hl, rfl⟩
      exact ok_ret ev_bl rfl
    case step =>
      rintro _ pre i suf hm s' r' ⟨hl, rfl⟩
      have hi : i < M := by
        have : i ∈ List.range M := by rw [hm]; exact List.mem_append_right _ List.mem_cons_self
        exact List.mem_range.mp this
      refine ⟨_, _, bg1, ?_⟩
      refine Ok.lo (s' := ([some (rLs K (ns.map rInt)), some (rInt (i : Int)), none, none] : Sls)) ?_ (Lo.set 1 hl)
      refine ok_asgK (EvX.imp (ex_callK [] [tb] (ea_cons (ev_var rfl) (ea_cons (ev_var rfl) ea_nil)) ⟨ns, (i : Int), rfl, rfl, by omega, rfl⟩ (Ω := fun P r' => ∃ l, P = rAt l ∧ r' = [(l, cPot 0), tb]) ?p1) ?_)
      case p1 =>
        rintro P r' ⟨l, rfl, rfl⟩
        exact ⟨l, rfl, rfl⟩
      rintro P r' ⟨l, rfl, rfl⟩
      refine ok_ifK1 (ext_not (ext_test (ex_allK (K := K) (exa_cons (EvX.impP (ex_lcX (Ω := fun P r' => P = rLp (List.replicate 60 (rBl true)) ∧ ∃ B, r' = [(l, cPot B), tb]) (ι := Unit) (L := fun _ => (List.range 60).map fun (i : Nat) => rInt (i : Int)) (ρ := fun _ => [(l, cPot 0), tb]) (eix_of (ei_rngM (n := 60) (ea_cons ev_int ea_nil) (by decide))) (fun _ i acc r' => acc = List.replicate i (rBl true) ∧ r' = [(l, cPot (50 * (i : Int))), tb]) (fun _ => ⟨rfl, rfl⟩) ?st ?en) ?ex)))))
      case st =>
        rintro _ _ i P acc r' hP ⟨rfl, rfl⟩
        have hi : i < 60 := by
          have := (List.getElem?_eq_some_iff.mp hP).1
          simpa using this
        refine ⟨_, _, bg1, all_in, ext_of (b := true) (fun e G H σ m l Q q => q G H m (Same.refl _)) ⟨fun _ => ?_, fun h => by cases h⟩⟩
        refine ex_callK [(l, cPot (50 * (i : Int))), tb] [] (ea_cons (ev_var rfl) ea_nil) ⟨l, 50 * (i : Int), rfl, rfl, by omega, rfl⟩ ?_
        rintro P r' ⟨rfl, rfl⟩
        refine ⟨by rw [List.replicate_succ'], ?_⟩
        rw [show 50 * (i : Int) + 50 = 50 * ((i + 1 : Nat) : Int) by omega]
        rfl
      case en =>
        rintro _ acc r' ⟨rfl, rfl⟩
        exact ⟨by simp, _, rfl⟩
      case ex =>
        rintro P r' ⟨rfl, B, rfl⟩
        refine ⟨rLs K ((List.replicate 60 true).map rBl), exa_nil ⟨_, rfl, true, rfl, fun h => (by cases h), fun _ => ?_⟩, ?_⟩
        · exact Ok.dropK (rc := [tb]) (List.Perm.swap _ _ _) (ok_next ⟨.keep (.skip (.skip (.skip .nil))), rfl⟩)
        · rw [List.map_replicate]
          exact lp_ls
end
end FL

namespace S1
open PySem PySem.Spec PyProof.Rows L2 StX M1
def top (i : Nat) : Stmt := PySem.Challenge.pw_oneedition_k85_copies_of_any_value.main.body.getD i (.Pass ⟨0, 0, 0, 0⟩)
abbrev s_law_pot : Stmt := top 95
abbrev N_law_pot : List Str := ["_law_script", "_law_k", "_law_cell", "_law_own"]
theorem sc_law_pot : FnScope N_law_pot ["_law_script", "_law_k"] (defScope s_law_pot) := ⟨rfl, rfl, rfl, by decide +kernel, rfl, by decide +kernel, by decide +kernel⟩
abbrev s_law_draw : Stmt := top 96
abbrev N_law_draw : List Str := ["_law_pot_here", "_law_many", "_law_digit", "_law_prime", "_law_made"]
theorem sc_law_draw : FnScope N_law_draw ["_law_pot_here", "_law_many"] (defScope s_law_draw) := ⟨rfl, rfl, rfl, by decide +kernel, rfl, by decide +kernel, by decide +kernel⟩
section
variable {P : Program} {w : World} {K : PySem.W.Frag} {mg : Str → Option Value} {base : Heap} {A : FL.Ad}
theorem ok_law_pot (T : FL.TxK K mg A)    {f : Addr} {fd : FuncData} (F : FunD K "_law_pot" "_law_pot" (defArgs s_law_pot) (defBody s_law_pot) (defScope s_law_pot) [] [] f fd) : FnOk P w K mg base CX0 1 f fd ["_law_script", "_law_k"] (spPot K) := by
  refine F.ok sc_law_pot (fun vs H Q E h => ?_) (fun cdv A outer s H vs Q E hr h => ?_)
  · obtain ⟨a, ns, k, rfl, _⟩ := h
    rfl
  · have nd := sc_law_pot.nd
    have hu := hu_of hr
    refine ⟨_, PSs.nox (pss_cons (ps_set (i := 2) nd rfl (by first | exact Or.inl rfl | exact Or.inr rfl) (pe_ifExp (pt_cmpR op_lt (pv 1) (pe_callB (id := "len") call_len (by rfl) T.n_len (by decide +kernel) (pa_cons (pv 0) pa_nil)) (nomark _)) (pe_ix ix_list (pv 0) (pv 1) (fun _ _ => rfl)) (pe_op op_add (pe_op op_mul pe_int (pv 1)) pe_int)))
      (pss_cons (ps_set (i := 3) nd rfl (by first | exact Or.inl rfl | exact Or.inr rfl) (pe_op op_mul (pe_op op_modN (pe_callTy call_int1 (by rfl) T.n_int (by decide +kernel) (pa_cons (pe_callB (id := "abs") call_abs (by rfl) T.n_abs (by decide +kernel) (pa_cons (pv 2) pa_nil)) pa_nil)) (pe_op op_powW (pe_op op_powW pe_int pe_int) pe_int)) (pe_callTy call_int1 (by rfl) T.n_int (by decide +kernel) (pa_cons (pe_cmpR op_ge (pe_callB (id := "abs") call_abs (by rfl) T.n_abs (by decide +kernel) (pa_cons (pv 2) pa_nil)) (pe_op op_powW pe_int pe_int) (nomark _)) pa_nil))))
      (pss_one (ps_ret (pe_lst (pa_cons (pv 3) (pa_cons (pe_op op_modN (pe_callTy call_int1 (by rfl) T.n_int (by decide +kernel) (pa_cons (pe_op op_add (pe_op op_add (pe_op op_mul (pe_op op_modN (pe_callTy call_int1 (by rfl) T.n_int (by decide +kernel) (pa_cons (pv 2) pa_nil)) pe_int) pe_int) (pe_op op_mul (pe_op op_mul pe_int (pv 1)) (pv 1))) pe_int) pa_nil)) pe_int) (pa_cons pe_int pa_nil)))))))), ?_⟩
    obtain ⟨a, ns, k, rfl, ha, k0, k1, q⟩ := h
    unfold tSeq tAsg
    refine tIf_any (fun v => ∃ c : Int, v = .int c) (fun R hR => ?_) ?_
    · refine ⟨_, rfl, _, rfl, _, _, rfl, .inl ⟨_, ha, rfl⟩, _, _, rfl, rfl, _, rfl, ite2 (fun h1 => ?_) (fun _ => ?_)⟩
      · have h1 : k < ((ns.map V.int).length : Int) := of_decide_eq_true h1
        obtain ⟨x, e, m⟩ := atI_nat k0 h1
        obtain ⟨c, _, rfl⟩ := List.mem_map.mp m
        exact ⟨_, rfl, _, rfl, a, _, k, _, rfl, rfl, ha, e, hR _ ⟨c, rfl⟩⟩
      · exact ⟨_, rfl, _, _, rfl, rfl, .inl (by omega), _, _, rfl, rfl, hR _ ⟨_, rfl⟩⟩
    · rintro v ⟨c, rfl⟩
      refine ⟨_, rfl, _, rfl, .inl ⟨_, rfl, ?_⟩⟩
      refine ⟨_, _, rfl, rfl, ⟨by decide, by decide +kernel⟩, _, _, rfl, rfl, ⟨by decide, by decide +kernel⟩, _, _, rfl, rfl, big_ne, ?_⟩
      refine ⟨_, rfl, _, rfl, _, _, rfl, rfl, ⟨by decide, by decide +kernel⟩, _, _, rfl, rfl, .inr ⟨_, rfl, ?_⟩⟩
      refine ⟨_, _, rfl, rfl, .inr (bit_in _), ?_⟩
      generalize Int.fmod _ _ * _ = X1
      refine ⟨_, rfl, _, rfl, .inl ⟨_, rfl, ?_⟩⟩
      refine ⟨_, _, rfl, rfl, (by show (2305843009213693951 : Int) ≠ 0; decide), _, _, rfl, rfl, .inr (by decide), ?_⟩
      refine ⟨_, rfl, _, _, rfl, rfl, .inl (by omega), _, rfl, _, _, rfl, rfl, .inl (by omega), _, _, rfl, rfl, _, _, rfl, rfl, .inl ⟨_, rfl, ?_⟩⟩
      refine ⟨_, _, rfl, rfl, (by show (2305843009213693921 : Int) ≠ 0; decide), ?_⟩
      refine ⟨by show 3 ≤ sizeLine; decide, fun l nl => ?_⟩
      have z := fmod_in (i := Int.fmod c 2305843009213693951 * 71993 + 9241 * k * k + 53) (n := 2305843009213693921) (by decide)
      exact q _ l nl (Same.new nl) ⟨_, _, 0, upd_same, z.1, z.2, Int.le_refl _, Int.le_refl _⟩
theorem ok_law_draw (T : FL.TxK K mg A)    {f : Addr} {fd : FuncData} (F : FunD K "_law_draw" "_law_draw" (defArgs s_law_draw) (defBody s_law_draw) (defScope s_law_draw) [] [] f fd) : FnOk P w K mg base CX0 1 f fd ["_law_pot_here", "_law_many"] (spDraw) := by
  refine F.ok sc_law_draw (fun vs H Q E h => ?_) (fun cdv A outer s H vs Q E hr h => ?_)
  · obtain ⟨p, n, B, rfl, _⟩ := h
    rfl
  · have nd := sc_law_draw.nd
    have hu := hu_of hr
    refine ⟨_, PSs.nox (pss_cons (ps_if (pt_cmpR op_gt (pe_ix ix_list (pv 0) pe_int (fun _ _ => rfl)) pe_int (nomark _)) (pss_cons (ps_set (i := 2) nd rfl (by first | exact Or.inl rfl | exact Or.inr rfl) (pe_op op_modN (pe_callTy call_int1 (by rfl) T.n_int (by decide +kernel) (pa_cons (pe_ix ix_list (pv 0) pe_int (fun _ _ => rfl)) pa_nil)) (pv 1)))
      (pss_cons (ps_asg (pe_op op_fdivN (pe_ix ix_list (pv 0) pe_int (fun _ _ => rfl)) (pv 1)) (pg_sub (pv 0) pe_int set_list))
      (pss_one (ps_ret (pv 2))))) pss_nil)
      (pss_cons (ps_asg (pe_op op_add (pe_ix ix_list (pv 0) pe_int (fun _ _ => rfl)) pe_int) (pg_sub (pv 0) pe_int set_list))
      (pss_cons (ps_set (i := 3) nd rfl (by first | exact Or.inl rfl | exact Or.inr rfl) (pe_ix ix_list (pe_lst (pa_cons pe_int (pa_cons pe_int (pa_cons pe_int (pa_cons pe_int (pa_cons pe_int pa_nil)))))) (pe_op op_modN (pe_callTy call_int1 (by rfl) T.n_int (by decide +kernel) (pa_cons (pe_ix ix_list (pv 0) pe_int (fun _ _ => rfl)) pa_nil)) pe_int) (fun _ _ => rfl)))
      (pss_cons (ps_set (i := 4) nd rfl (by first | exact Or.inl rfl | exact Or.inr rfl) (pe_op op_modN (pe_callTy call_int1 (by rfl) T.n_int (by decide +kernel) (pa_cons (pe_op op_powW (pe_op op_add (pe_op op_add (pe_ix ix_list (pv 0) pe_int (fun _ _ => rfl)) (pe_op op_mul (pe_op op_mul pe_int (pe_ix ix_list (pv 0) pe_int (fun _ _ => rfl))) (pe_ix ix_list (pv 0) pe_int (fun _ _ => rfl)))) pe_int) pe_int) pa_nil)) (pv 3)))
      (pss_cons (ps_set (i := 4) nd rfl (by first | exact Or.inl rfl | exact Or.inr rfl) (pe_op op_modN (pe_callTy call_int1 (by rfl) T.n_int (by decide +kernel) (pa_cons (pe_op op_mul (pv 4) (pe_op op_add (pe_op op_modN (pe_callTy call_int1 (by rfl) T.n_int (by decide +kernel) (pa_cons (pv 4) pa_nil)) pe_int) (pe_op op_mul pe_int (pe_ix ix_list (pv 0) pe_int (fun _ _ => rfl))))) pa_nil)) pe_int))
      (pss_one (ps_ret (pe_op op_modN (pe_callTy call_int1 (by rfl) T.n_int (by decide +kernel) (pa_cons (pe_op op_fdivN (pv 4) pe_int) pa_nil)) (pv 1))))))))), ?_⟩
    obtain ⟨p, n, B, rfl, ⟨x, y, z, hp, y0, y1, z0, z1⟩, n1, n2, hB, q⟩ := h
    have at0 : ∀ x y z : Int, atI [V.int x, V.int y, V.int z] 0 = some (V.int x) := fun _ _ _ => rfl
    have at1 : ∀ x y z : Int, atI [V.int x, V.int y, V.int z] 1 = some (V.int y) := fun _ _ _ => rfl
    have at2 : ∀ x y z : Int, atI [V.int x, V.int y, V.int z] 2 = some (V.int z) := fun _ _ _ => rfl
    have hn : n ≠ 0 := by omega
    refine ⟨_, rfl, p, _, _, _, rfl, rfl, SqL.of hp, at0 x y z, _, _, rfl, rfl, _, rfl, ite2 (fun h1 => ?_) (fun h1 => ?_)⟩
    · refine ⟨_, rfl, p, _, _, _, rfl, rfl, SqL.of hp, at0 x y z, .inl ⟨_, rfl, ?_⟩⟩
      refine ⟨_, rfl, _, _, rfl, rfl, hn, ?_⟩
      refine ⟨_, rfl, p, _, _, _, rfl, rfl, SqL.of hp, at0 x y z, _, rfl, _, _, rfl, rfl, ⟨hn, by omega⟩, ?_⟩
      refine ⟨_, rfl, p, _, _, 0, rfl, rfl, hp, rfl, _, rfl, ?_⟩
      have d := fmod_in (i := x) n1
      exact q _ _ (But.put p H _) ⟨_, y, z, upd_same, y0, y1, z0, by omega⟩ d.1 d.2
    · refine ⟨_, rfl, p, _, _, _, rfl, rfl, SqL.of hp, at2 x y z, _, _, rfl, rfl, ?_⟩
      refine ⟨_, rfl, p, _, _, 2, rfl, rfl, hp, rfl, ?_⟩
      have b1 := But.put p H (.lst [.int x, .int y, .int (z + 1)])
      have e1 : (upd H p (.lst [.int x, .int y, .int (z + 1)])) p = some (.lst [.int x, .int y, .int (z + 1)]) := upd_same
      show (fun H1 : Hp => _) (upd H p (.lst [.int x, .int y, .int (z + 1)]))
      generalize upd H p (.lst [.int x, .int y, .int (z + 1)]) = H1 at b1 e1
      refine ⟨by show 5 ≤ sizeLine; decide, fun l nl => ?_⟩
      have npl : p ≠ l := ne_of_none e1 nl
      have b2 : But p H (upd H1 l (.lst [V.int 2147483647, V.int 2147483629, V.int 2147483587, V.int 2147483579, V.int 2147483563])) := But.trans b1 (Same.but (Same.new nl) p)
      have e2 : (upd H1 l (.lst [V.int 2147483647, V.int 2147483629, V.int 2147483587, V.int 2147483579, V.int 2147483563])) p = some (.lst [.int x, .int y, .int (z + 1)]) := by rw [upd_ne npl]; exact e1
      have e3 : (upd H1 l (.lst [V.int 2147483647, V.int 2147483629, V.int 2147483587, V.int 2147483579, V.int 2147483563])) l = some (.lst [V.int 2147483647, V.int 2147483629, V.int 2147483587, V.int 2147483579, V.int 2147483563]) := upd_same
      generalize upd H1 l (.lst [V.int 2147483647, V.int 2147483629, V.int 2147483587, V.int 2147483579, V.int 2147483563]) = H2 at b2 e2 e3
      have z0' : 0 ≤ z + 1 := by omega
      have z1' : z + 1 ≤ 100001 := by omega
      obtain ⟨r, er, r0, r1⟩ := prime_at (fmod_in (i := z + 1) (n := 5) (by decide)).1 (fmod_in (i := z + 1) (n := 5) (by decide)).2
      have hr0 : r ≠ 0 := by omega
      refine ⟨_, rfl, p, _, _, _, rfl, rfl, SqL.of e2, at2 x y (z + 1), .inl ⟨_, rfl, ?_⟩⟩
      refine ⟨_, _, rfl, rfl, (by show (5 : Int) ≠ 0; decide), l, _, _, _, rfl, rfl, SqL.of e3, er, ?_⟩
      have sq := sq_in z0' z1'
      have esq : (99991 * 100001 * 100001 : Int) = 999929998299991 := by decide
      have e64 : (2 : Int) ^ 64 = 18446744073709551616 := by decide
      have m1 : CMul 99991 (z + 1) := .inl ⟨by decide, by decide⟩
      have m2 : CMul (99991 * (z + 1)) (z + 1) := .inl ⟨by omega, by omega⟩
      refine ⟨_, rfl, p, _, _, _, rfl, rfl, SqL.of e2, at1 x y (z + 1), ?_⟩
      refine ⟨_, rfl, p, _, _, _, rfl, rfl, SqL.of e2, at2 x y (z + 1), _, _, rfl, rfl, m1, ?_⟩
      refine ⟨_, rfl, p, _, _, _, rfl, rfl, SqL.of e2, at2 x y (z + 1), _, _, rfl, rfl, m2, ?_⟩
      refine ⟨_, _, rfl, rfl, _, _, rfl, rfl, _, _, rfl, rfl, ⟨by decide, pow_bits y0 y1 z0' z1'⟩, .inl ⟨_, rfl, ?_⟩⟩
      refine ⟨_, rfl, _, _, rfl, rfl, hr0, ?_⟩
      have hm := fmod_in (i := (y + 99991 * (z + 1) * (z + 1) + 61) ^ Int.toNat 3) r0
      have m3 : CMul 83 (z + 1) := .inl ⟨by decide, by decide⟩
      have m4 : ∀ M W : Int, 0 ≤ M ∧ M < r → CMul M W := fun M W hM => .inl ⟨by omega, by omega⟩
      refine ⟨_, rfl, _, rfl, .inl ⟨_, rfl, ?_⟩⟩
      refine ⟨_, _, rfl, rfl, (by show (10007 : Int) ≠ 0; decide), ?_⟩
      refine ⟨_, rfl, p, _, _, _, rfl, rfl, SqL.of e2, at2 x y (z + 1), _, _, rfl, rfl, m3, _, _, rfl, rfl, _, _, rfl, rfl, m4 _ _ hm, .inl ⟨_, rfl, ?_⟩⟩
      refine ⟨_, _, rfl, rfl, (by show (2305843009213693907 : Int) ≠ 0; decide), ?_⟩
      refine ⟨_, rfl, _, _, rfl, rfl, ⟨by decide, by decide⟩, .inl ⟨_, rfl, ?_⟩⟩
      refine ⟨_, rfl, _, _, rfl, rfl, hn, ?_⟩
      exact q _ _ b2 ⟨_, y, z + 1, e2, y0, y1, z0', by omega⟩ (fmod_in n1).1 (fmod_in n1).2
end
end S1

namespace FL
open PySem PySem.Spec PyProof.Rows L2 StX FN FT FS FZ FP
theorem wish_law85 {K : PySem.W.Frag} {T0 : Addr} (nT : K.lookup T0 = none) {H : Hp} {a : Addr} {ns : List Int} (hn : ns.length ≤ 63) (h1 : H T0 = some (.tbl #[])) (hS : SqL K H a (ns.map V.int)) :
    spM (S_law85 K T0) [.ref a] H (fun v _ => v = .bl true) fun _ _ _ => False := by
  let G : Hp := fun b => if b = T0 then none else H b
  have gs : Same G H := fun b o q => by
    show H b = some o
    have q : (if b = T0 then none else H b) = some o := q
    by_cases c : b = T0
    · rw [if_pos c] at q; cases q
    · rw [if_neg c] at q; exact q
  have ga : ∀ o, (∀ ps, o ≠ HO.tbl ps) → H a = some o → G a = some o := fun o no q => by
    show (if a = T0 then none else H a) = some o
    rw [if_neg]
    · exact q
    · rintro e
      rw [e, h1] at q; exact no _ (Option.some.inj q).symm
  have gS : SqL K G a (ns.map V.int) := by
    rcases hS with (q | ⟨od, q⟩) | q
    · exact .inl (.inl (ga _ (fun ps z => by cases z) q))
    · exact .inl (.inr ⟨od, ga _ (fun ps z => by cases z) q⟩)
    · exact .inr q
  have gT : G T0 = none := if_pos rfl
  have tab : ∀ q, (cTab q).p G (.tbl #[]) := fun q => ⟨#[], rfl, True.intro, fun pos cv z => by
    have z : codeAmong pos [] = some cv := z
    simp [codeAmong] at z⟩
  refine ⟨G, _, _, _, ⟨ns, rfl, hn, rfl, rfl⟩, .cons ⟨by rw [List.length_map]; exact Nat.le_trans hn (by decide), a, _, rfl, gS, all2_ofInts ns⟩ .nil, ⟨Same.refl _, fun _ _ q _ => q, gs, fun _ _ q => .inl q, fun x hx => ?_, ?_⟩, fun v G' H' P r' f m pv => ?_⟩
  · rcases List.mem_cons.mp hx with e | hx
    · subst e
      exact ⟨_, h1, tab _, gT, .inl List.mem_cons_self⟩
    · cases hx
  · exact List.nodup_cons.mpr ⟨List.not_mem_nil, List.nodup_nil⟩
  · have f : P = rBl true := f
    subst f
    exact pv
end FL

namespace FL
open PySem PySem.Spec PyProof.Rows L2 StX FN FT FS FZ FP
theorem fd_mk {K : PySem.W.Frag} {x q : Str} {st : Stmt} {f : Addr} {od an : Option Addr} {sl : Array (Option Value)} {oc kV dc pm cd ct : Value} (l : K.lookup f = some ⟨oc, od, .func (PySem.W.fnOf x q (defArgs st) (defBody st) (defScope st) .none kV dc pm an cd ct), sl⟩)
    (c : PySem.W.codeIn K cd q = true) (k : PySem.W.keepIn K (.ref f) = true) : FunD K x q (defArgs st) (defBody st) (defScope st) [] [] f (PySem.W.fnOf x q (defArgs st) (defBody st) (defScope st) .none kV dc pm an cd ct) :=
  ⟨⟨_, _, _, _, _, _, _, _, _, _, rfl, l, c, .inl ⟨rfl, rfl⟩, .inl rfl⟩, k⟩
theorem all_mk {l : PySem.W.OpenLaw} {q : Program} {w : World} {K : PySem.W.Frag} {h : Heap} {mg : Str → Option Value} {fa cRecord cState cSteps cContents cKnowledge cKeeper cSpans cBadCopies cBadPiece cNoCopy cBadSpans cBadWord cNoAsk cKE f_e0 N_e0 cd_e0 cc_e0 f_e1 N_e1 cd_e1 cc_e1 f_e2 N_e2 cd_e2 cc_e2 f_e3 N_e3 cd_e3 cc_e3 f_e4 N_e4 cd_e4 cc_e4 f_e5 N_e5 cd_e5 cc_e5 f0 f1 f2 f3 f4 f5 f6 f7 f8 f9 f10 f11 f12 f13 f14 f15 f16 f17 f18 f19 f20 f21 f22 f23 D23 f24 p24 f25 p25 f26 p26 f27 p27 f28 p28 f29 f30 f31 f32 f33 f34 f35 f36 f37 f38 kT0 T0 f39 fS0 fS1 : Addr} (tabs : ∀ (y : Str) (c P : Addr) (e : DefRec), (recsOf q).find? (fun e => e.name == y) = some e → PySem.W.tabIn K y = some (c, P) → PySem.W.CodeHd h c P ∧ h.get? P = some { cls := .none, data := .fields #[] }) (X : K.In h) (G : h.Ns mainGlobals mg) (hfa : mg "law" = some (.ref fa))
    {od0 an0 od1 an1 od2 an2 od3 an3 od4 an4 od5 an5 od6 an6 od7 an7 od8 an8 od9 an9 od10 an10 od11 an11 od12 an12 od13 an13 od14 an14 od15 an15 od16 an16 od17 an17 od18 an18 od19 an19 od20 an20 od21 an21 od22 an22 od23 an23 od24 an24 od25 an25 od26 an26 od27 an27 od28 an28 od29 an29 od30 an30 od31 an31 od32 an32 od33 an33 od34 an34 od35 an35 od36 an36 od37 an37 od38 an38 od39 an39 odS0 anS0 odS1 anS1 : Option Addr} {sl0 sl1 sl2 sl3 sl4 sl5 sl6 sl7 sl8 sl9 sl10 sl11 sl12 sl13 sl14 sl15 sl16 sl17 sl18 sl19 sl20 sl21 sl22 sl23 sl24 sl25 sl26 sl27 sl28 sl29 sl30 sl31 sl32 sl33 sl34 sl35 sl36 sl37 sl38 sl39 slS0 slS1 : Array (Option Value)} {oc0 dc0 pm0 ct0 kV0 cd0 oc1 dc1 pm1 ct1 kV1 cd1 oc2 dc2 pm2 ct2 kV2 cd2 oc3 dc3 pm3 ct3 kV3 cd3 oc4 dc4 pm4 ct4 kV4 cd4 oc5 dc5 pm5 ct5 kV5 cd5 oc6 dc6 pm6 ct6 kV6 cd6 oc7 dc7 pm7 ct7 kV7 cd7 oc8 dc8 pm8 ct8 kV8 cd8 oc9 dc9 pm9 ct9 kV9 cd9 oc10 dc10 pm10 ct10 kV10 cd10 oc11 dc11 pm11 ct11 kV11 cd11 oc12 dc12 pm12 ct12 kV12 cd12 oc13 dc13 pm13 ct13 kV13 cd13 oc14 dc14 pm14 ct14 kV14 cd14 oc15 dc15 pm15 ct15 kV15 cd15 oc16 dc16 pm16 ct16 kV16 cd16 oc17 dc17 pm17 ct17 kV17 cd17 oc18 dc18 pm18 ct18 kV18 cd18 oc19 dc19 pm19 ct19 kV19 cd19 oc20 dc20 pm20 ct20 kV20 cd20 oc21 dc21 pm21 ct21 kV21 cd21 oc22 dc22 pm22 ct22 kV22 cd22 oc23 dc23 pm23 ct23 cd23 oc24 dc24 pm24 ct24 kV24 cd24 oc25 dc25 pm25 ct25 kV25 cd25 oc26 dc26 pm26 ct26 kV26 cd26 oc27 dc27 pm27 ct27 kV27 cd27 oc28 dc28 pm28 ct28 kV28 cd28 oc29 dc29 pm29 ct29 kV29 cd29 oc30 dc30 pm30 ct30 kV30 cd30 oc31 dc31 pm31 ct31 kV31 cd31 oc32 dc32 pm32 ct32 kV32 cd32 oc33 dc33 pm33 ct33 kV33 cd33 oc34 dc34 pm34 ct34 kV34 cd34 oc35 dc35 pm35 ct35 kV35 cd35 oc36 dc36 pm36 ct36 kV36 cd36 oc37 dc37 pm37 ct37 kV37 cd37 oc38 dc38 pm38 ct38 kV38 oc39 dc39 pm39 ct39 kV39 cd39 ocS0 dcS0 pmS0 ctS0 kVS0 cdS0 ocS1 dcS1 pmS1 ctS1 kVS1 cdS1 : Value} {t_SMALL : Tok} {t_DIGITS : Tok} {t_MOST_SIGNS : Tok} {t_MOST_COPIES : Tok} {t_MOST_PIECE : Tok} {t_PAIR_forms : Tok} {t_PAIR_spans : Tok} {t_MOST : Tok} {tf_e0 : Tok} {nm_e0 qn_e0 file_e0 : Str} {bs_e0 sb_e0 : List Value} {sn_e0 : List Str} {ab_e0 : Bool} {co_e0 : Option Bool} {dd_e0 od_e0 an_e0 b2_e0 b5_e0 : Option Addr} {m0_e0 m1_e0 m2_e0 m3_e0 m5_e0 : Option Value} {oc_e0 dc_e0 pm_e0 ct_e0 b1_e0 b4_e0 : Value} {sl_e0 b3_e0 b6_e0 : Array (Option Value)} {vs_e0 : Array Value} {tf_e1 : Tok} {nm_e1 qn_e1 file_e1 : Str} {bs_e1 sb_e1 : List Value} {sn_e1 : List Str} {ab_e1 : Bool} {co_e1 : Option Bool} {dd_e1 od_e1 an_e1 b2_e1 b5_e1 : Option Addr} {m0_e1 m1_e1 m2_e1 m3_e1 m5_e1 : Option Value} {oc_e1 dc_e1 pm_e1 ct_e1 b1_e1 b4_e1 : Value} {sl_e1 b3_e1 b6_e1 : Array (Option Value)} {vs_e1 : Array Value} {tf_e2 : Tok} {nm_e2 qn_e2 file_e2 : Str} {bs_e2 sb_e2 : List Value} {sn_e2 : List Str} {ab_e2 : Bool} {co_e2 : Option Bool} {dd_e2 od_e2 an_e2 b2_e2 b5_e2 : Option Addr} {m0_e2 m1_e2 m2_e2 m3_e2 m5_e2 : Option Value} {oc_e2 dc_e2 pm_e2 ct_e2 b1_e2 b4_e2 : Value} {sl_e2 b3_e2 b6_e2 : Array (Option Value)} {vs_e2 : Array Value} {tf_e3 : Tok} {nm_e3 qn_e3 file_e3 : Str} {bs_e3 sb_e3 : List Value} {sn_e3 : List Str} {ab_e3 : Bool} {co_e3 : Option Bool} {dd_e3 od_e3 an_e3 b2_e3 b5_e3 : Option Addr} {m0_e3 m1_e3 m2_e3 m3_e3 m5_e3 : Option Value} {oc_e3 dc_e3 pm_e3 ct_e3 b1_e3 b4_e3 : Value} {sl_e3 b3_e3 b6_e3 : Array (Option Value)} {vs_e3 : Array Value} {tf_e4 : Tok} {nm_e4 qn_e4 file_e4 : Str} {bs_e4 sb_e4 : List Value} {sn_e4 : List Str} {ab_e4 : Bool} {co_e4 : Option Bool} {dd_e4 od_e4 an_e4 b2_e4 b5_e4 : Option Addr} {m0_e4 m1_e4 m2_e4 m3_e4 m5_e4 : Option Value} {oc_e4 dc_e4 pm_e4 ct_e4 b1_e4 b4_e4 : Value} {sl_e4 b3_e4 b6_e4 : Array (Option Value)} {vs_e4 : Array Value} {tf_e5 : Tok} {nm_e5 qn_e5 file_e5 : Str} {bs_e5 sb_e5 : List Value} {sn_e5 : List Str} {ab_e5 : Bool} {co_e5 : Option Bool} {dd_e5 od_e5 an_e5 b2_e5 b5_e5 : Option Addr} {m0_e5 m1_e5 m2_e5 m3_e5 m5_e5 : Option Value} {oc_e5 dc_e5 pm_e5 ct_e5 b1_e5 b4_e5 : Value} {sl_e5 b3_e5 b6_e5 : Array (Option Value)} {vs_e5 : Array Value} {tk23 : Tok} {rest24 : List Value} {rest25 : List Value} {rest26 : List Value} {rest27 : List Value} {rest28 : List Value} {y138 : Value} {y238 : Option Addr} {y338 : Array (Option Value)} {vc38 : Array Value} {rec38 : DefRec}
    (g_Record : PySem.W.nsIn K mainGlobals "Record" = some (some (.ref cRecord)))
    (g_State : PySem.W.nsIn K mainGlobals "State" = some (some (.ref cState)))
    (g_Steps : PySem.W.nsIn K mainGlobals "Steps" = some (some (.ref cSteps)))
    (g_Contents : PySem.W.nsIn K mainGlobals "Contents" = some (some (.ref cContents)))
    (g_Knowledge : PySem.W.nsIn K mainGlobals "Knowledge" = some (some (.ref cKnowledge)))
    (g_Keeper : PySem.W.nsIn K mainGlobals "Keeper" = some (some (.ref cKeeper)))
    (g_Spans : PySem.W.nsIn K mainGlobals "Spans" = some (some (.ref cSpans)))
    (g_BadCopies : PySem.W.nsIn K mainGlobals "BadCopies" = some (some (.ref cBadCopies)))
    (g_BadPiece : PySem.W.nsIn K mainGlobals "BadPiece" = some (some (.ref cBadPiece)))
    (g_NoCopy : PySem.W.nsIn K mainGlobals "NoCopy" = some (some (.ref cNoCopy)))
    (g_BadSpans : PySem.W.nsIn K mainGlobals "BadSpans" = some (some (.ref cBadSpans)))
    (g_BadWord : PySem.W.nsIn K mainGlobals "BadWord" = some (some (.ref cBadWord)))
    (g_NoAsk : PySem.W.nsIn K mainGlobals "NoAsk" = some (some (.ref cNoAsk)))
    (g_KE : PySem.W.nsIn K mainGlobals "KeeperError" = some (some (.ref cKE)))
    (z_len : PySem.W.nsIn K mainGlobals "len" = some none)
    (z_range : PySem.W.nsIn K mainGlobals "range" = some none)
    (z_enumerate : PySem.W.nsIn K mainGlobals "enumerate" = some none)
    (z_sum : PySem.W.nsIn K mainGlobals "sum" = some none)
    (z_tuple : PySem.W.nsIn K mainGlobals "tuple" = some none)
    (z_list : PySem.W.nsIn K mainGlobals "list" = some none)
    (z_sorted : PySem.W.nsIn K mainGlobals "sorted" = some none)
    (z_dict : PySem.W.nsIn K mainGlobals "dict" = some none)
    (z_zip : PySem.W.nsIn K mainGlobals "zip" = some none)
    (z_any : PySem.W.nsIn K mainGlobals "any" = some none)
    (z_all : PySem.W.nsIn K mainGlobals "all" = some none)
    (z_set : PySem.W.nsIn K mainGlobals "set" = some none)
    (z_max : PySem.W.nsIn K mainGlobals "max" = some none)
    (z_min : PySem.W.nsIn K mainGlobals "min" = some none)
    (z_int : PySem.W.nsIn K mainGlobals "int" = some none)
    (z_abs : PySem.W.nsIn K mainGlobals "abs" = some none)
    (z_repr : PySem.W.nsIn K mainGlobals "repr" = some none)
    (z_bool : PySem.W.nsIn K mainGlobals "bool" = some none)
    (z_str : PySem.W.nsIn K mainGlobals "str" = some none)
    (z_isinstance : PySem.W.nsIn K mainGlobals "isinstance" = some none)
    (q_SMALL : PySem.W.nsIn K mainGlobals "SMALL" = some (some (.str "abcdefghijklmnopqrstuvwxyz" t_SMALL)))
    (q_DIGITS : PySem.W.nsIn K mainGlobals "DIGITS" = some (some (.str "0123456789" t_DIGITS)))
    (q_MOST_SIGNS : PySem.W.nsIn K mainGlobals "MOST_SIGNS" = some (some (.int 8 t_MOST_SIGNS)))
    (q_MOST_COPIES : PySem.W.nsIn K mainGlobals "MOST_COPIES" = some (some (.int 6 t_MOST_COPIES)))
    (q_MOST_PIECE : PySem.W.nsIn K mainGlobals "MOST_PIECE" = some (some (.int 64 t_MOST_PIECE)))
    (q_PAIR_forms : PySem.W.nsIn K mainGlobals "PAIR_forms" = some (some (.int 2 t_PAIR_forms)))
    (q_PAIR_spans : PySem.W.nsIn K mainGlobals "PAIR_spans" = some (some (.int 2 t_PAIR_spans)))
    (q_MOST : PySem.W.nsIn K mainGlobals "MOST" = some (some (.int 1000000 t_MOST)))
    (pg_Record : PySem.W.plainGet K cRecord Str.empty = true)
    (hd_Record : PySem.W.hasDictIn K cRecord = true)
    (po_Record : PySem.W.plainOver K cRecord = true)
    (sa_Record : PySem.W.findIn K (.ref cRecord) "__setattr__" = some (some (.builtin "object.__setattr__")))
    (na_Record_seen_at : PySem.W.findIn K (.ref cRecord) "seen_at" = some none)
    (na_Record_mark_told : PySem.W.findIn K (.ref cRecord) "mark_told" = some none)
    (na_Record_weak_told : PySem.W.findIn K (.ref cRecord) "weak_told" = some none)
    (na_Record_length_told : PySem.W.findIn K (.ref cRecord) "length_told" = some none)
    (na_Record_names_told : PySem.W.findIn K (.ref cRecord) "names_told" = some none)
    (na_Record_not_marks : PySem.W.findIn K (.ref cRecord) "not_marks" = some none)
    (na_Record_byte_book : PySem.W.findIn K (.ref cRecord) "byte_book" = some none)
    (na_Record_has_head : PySem.W.findIn K (.ref cRecord) "has_head" = some none)
    (na_Record_is_ended : PySem.W.findIn K (.ref cRecord) "is_ended" = some none)
    (pg_State : PySem.W.plainGet K cState Str.empty = true)
    (hd_State : PySem.W.hasDictIn K cState = true)
    (po_State : PySem.W.plainOver K cState = true)
    (sa_State : PySem.W.findIn K (.ref cState) "__setattr__" = some (some (.builtin "object.__setattr__")))
    (na_State_copy_pairs : PySem.W.findIn K (.ref cState) "copy_pairs" = some none)
    (na_State_piece_length : PySem.W.findIn K (.ref cState) "piece_length" = some none)
    (na_State_time_now : PySem.W.findIn K (.ref cState) "time_now" = some none)
    (na_State_next_number : PySem.W.findIn K (.ref cState) "next_number" = some none)
    (na_State_ask_book : PySem.W.findIn K (.ref cState) "ask_book" = some none)
    (na_State_answer_book : PySem.W.findIn K (.ref cState) "answer_book" = some none)
    (na_State_fold_book : PySem.W.findIn K (.ref cState) "fold_book" = some none)
    (na_State_knowledge : PySem.W.findIn K (.ref cState) "knowledge" = some none)
    (mk_State : PySem.W.makesIn K cState = true)
    (kc_State : PySem.W.keepIn K (.ref cState) = true)
    (pg_Steps : PySem.W.plainGet K cSteps Str.empty = true)
    (hd_Steps : PySem.W.hasDictIn K cSteps = true)
    (po_Steps : PySem.W.plainOver K cSteps = true)
    (sa_Steps : PySem.W.findIn K (.ref cSteps) "__setattr__" = some (some (.builtin "object.__setattr__")))
    (na_Steps_records : PySem.W.findIn K (.ref cSteps) "records" = some none)
    (na_Steps_numbers : PySem.W.findIn K (.ref cSteps) "numbers" = some none)
    (na_Steps_under_book : PySem.W.findIn K (.ref cSteps) "under_book" = some none)
    (na_Steps_meaning_from : PySem.W.findIn K (.ref cSteps) "meaning_from" = some none)
    (na_Steps_edition_from : PySem.W.findIn K (.ref cSteps) "edition_from" = some none)
    (na_Steps_older_from : PySem.W.findIn K (.ref cSteps) "older_from" = some none)
    (na_Steps_group_of : PySem.W.findIn K (.ref cSteps) "group_of" = some none)
    (na_Steps_ring_of : PySem.W.findIn K (.ref cSteps) "ring_of" = some none)
    (na_Steps_group_rows : PySem.W.findIn K (.ref cSteps) "group_rows" = some none)
    (na_Steps_rings : PySem.W.findIn K (.ref cSteps) "rings" = some none)
    (mk_Steps : PySem.W.makesIn K cSteps = true)
    (kc_Steps : PySem.W.keepIn K (.ref cSteps) = true)
    (pg_Contents : PySem.W.plainGet K cContents Str.empty = true)
    (hd_Contents : PySem.W.hasDictIn K cContents = true)
    (po_Contents : PySem.W.plainOver K cContents = true)
    (sa_Contents : PySem.W.findIn K (.ref cContents) "__setattr__" = some (some (.builtin "object.__setattr__")))
    (na_Contents_records : PySem.W.findIn K (.ref cContents) "records" = some none)
    (na_Contents_piece_length : PySem.W.findIn K (.ref cContents) "piece_length" = some none)
    (na_Contents_least_of : PySem.W.findIn K (.ref cContents) "least_of" = some none)
    (na_Contents_members_of : PySem.W.findIn K (.ref cContents) "members_of" = some none)
    (na_Contents_mark_of : PySem.W.findIn K (.ref cContents) "mark_of" = some none)
    (na_Contents_weak_of : PySem.W.findIn K (.ref cContents) "weak_of" = some none)
    (na_Contents_length_of : PySem.W.findIn K (.ref cContents) "length_of" = some none)
    (na_Contents_names_of : PySem.W.findIn K (.ref cContents) "names_of" = some none)
    (na_Contents_not_marks_of : PySem.W.findIn K (.ref cContents) "not_marks_of" = some none)
    (na_Contents_is_torn : PySem.W.findIn K (.ref cContents) "is_torn" = some none)
    (na_Contents_own_bytes : PySem.W.findIn K (.ref cContents) "own_bytes" = some none)
    (na_Contents_piece_bytes : PySem.W.findIn K (.ref cContents) "piece_bytes" = some none)
    (na_Contents_piece_sizes : PySem.W.findIn K (.ref cContents) "piece_sizes" = some none)
    (na_Contents_bytes_of : PySem.W.findIn K (.ref cContents) "bytes_of" = some none)
    (mk_Contents : PySem.W.makesIn K cContents = true)
    (kc_Contents : PySem.W.keepIn K (.ref cContents) = true)
    (pg_Knowledge : PySem.W.plainGet K cKnowledge Str.empty = true)
    (hd_Knowledge : PySem.W.hasDictIn K cKnowledge = true)
    (po_Knowledge : PySem.W.plainOver K cKnowledge = true)
    (sa_Knowledge : PySem.W.findIn K (.ref cKnowledge) "__setattr__" = some (some (.builtin "object.__setattr__")))
    (na_Knowledge_records : PySem.W.findIn K (.ref cKnowledge) "records" = some none)
    (na_Knowledge_steps : PySem.W.findIn K (.ref cKnowledge) "steps" = some none)
    (na_Knowledge_contents : PySem.W.findIn K (.ref cKnowledge) "contents" = some none)
    (na_Knowledge_world_found : PySem.W.findIn K (.ref cKnowledge) "world_found" = some none)
    (mk_Knowledge : PySem.W.makesIn K cKnowledge = true)
    (kc_Knowledge : PySem.W.keepIn K (.ref cKnowledge) = true)
    (pg_Keeper : PySem.W.plainGet K cKeeper Str.empty = true)
    (hd_Keeper : PySem.W.hasDictIn K cKeeper = true)
    (po_Keeper : PySem.W.plainOver K cKeeper = true)
    (sa_Keeper : PySem.W.findIn K (.ref cKeeper) "__setattr__" = some (some (.builtin "object.__setattr__")))
    (na_Keeper_state : PySem.W.findIn K (.ref cKeeper) "state" = some none)
    (na_Keeper_depth : PySem.W.findIn K (.ref cKeeper) "depth" = some none)
    (na_Keeper_trial_number : PySem.W.findIn K (.ref cKeeper) "trial_number" = some none)
    (na_Keeper_trials_begun : PySem.W.findIn K (.ref cKeeper) "trials_begun" = some none)
    (mk_Keeper : PySem.W.makesIn K cKeeper = true)
    (kc_Keeper : PySem.W.keepIn K (.ref cKeeper) = true)
    (pg_Spans : PySem.W.plainGet K cSpans Str.empty = true)
    (hd_Spans : PySem.W.hasDictIn K cSpans = true)
    (po_Spans : PySem.W.plainOver K cSpans = true)
    (sa_Spans : PySem.W.findIn K (.ref cSpans) "__setattr__" = some (some (.builtin "object.__setattr__")))
    (na_Spans_pairs : PySem.W.findIn K (.ref cSpans) "pairs" = some none)
    (na_Spans_many_positions : PySem.W.findIn K (.ref cSpans) "many_positions" = some none)
    (kit_NoneType : PySem.W.kitOne K (.type "NoneType") (.ref cSpans) = some false)
    (kit_bool : PySem.W.kitOne K (.type "bool") (.ref cSpans) = some false)
    (kit_int : PySem.W.kitOne K (.type "int") (.ref cSpans) = some false)
    (kit_str : PySem.W.kitOne K (.type "str") (.ref cSpans) = some false)
    (kit_list : PySem.W.kitOne K (.type "list") (.ref cSpans) = some false)
    (kit_tuple : PySem.W.kitOne K (.type "tuple") (.ref cSpans) = some false)
    (kit_dict : PySem.W.kitOne K (.type "dict") (.ref cSpans) = some false)
    (kitS : PySem.W.kitOne K (.ref cSpans) (.ref cSpans) = some true)
    (s1 : PySem.W.findIn K (.ref cSpans) "__class__" = some (some (.builtin "object.__class__")))
    (s2 : PySem.W.specialIn K (.builtin "object.__class__") "__get__" = some (some (.builtin "getset_descriptor.__get__")))
    (s3 : PySem.W.takesIn K (.builtin "object.__class__") = some true)
    (s4 : PySem.W.mroIn K cSpans (.type "object") = some true)
    (xop : PySem.W.nsIn K cStatics "thirdparty.any" = some none)
    (xns : PySem.W.nsIn K mainGlobals "super" = some none)
    (xtop : (l.prog.main.scope.names.lookup ("super" : Str)).isSome = false)
    (yex : PySem.W.subIn K (.ref cKE) (.type "BaseException") = some true)
    (yhd : PySem.W.hasDictIn K cKE = true)
    (yty : PySem.W.typeIn K (.ref cKE) = some (.type "type"))
    (xL_e0 : K.lookup cBadCopies = some (excClassObj nm_e0 qn_e0 cBadCopies N_e0 bs_e0 [.ref cKE, .type "ValueError", .type "Exception", .type "BaseException", .type "object"] true sn_e0 sb_e0 ab_e0 co_e0 dd_e0 m0_e0 m1_e0 m2_e0 m3_e0 m5_e0 "ValueError.__new__"))
    (xsa_e0 : PySem.W.findIn K (.ref cBadCopies) "__setattr__" = some (some (.builtin "object.__setattr__")))
    (xga_e0 : PySem.W.findIn K (.ref cBadCopies) "__getattribute__" = some (some (.builtin "BaseException.__getattribute__")))
    (xgg_e0 : PySem.W.findIn K (.ref cBadCopies) "__getattr__" = some none)
    (xno_e0 : PySem.W.findIn K (.ref cBadCopies) "value" = some none)
    (xi_e0 : PySem.W.findIn K (.ref cBadCopies) "__init__" = some (some (.ref f_e0)))
    (xt_e0 : PySem.W.typeIn K (.ref f_e0) = some (.type "function"))
    (xk_e0 : PySem.W.keepIn K (.ref cBadCopies) = true)
    (xex_e0 : PySem.W.subIn K (.ref cBadCopies) (.type "BaseException") = some true)
    (xty_e0 : PySem.W.typeIn K (.ref cBadCopies) = some (.type "type"))
    (xhd_e0 : PySem.W.hasDictIn K cBadCopies = true)
    (xsu_e0 : PySem.W.ks_superIn K cBadCopies cBadCopies "__init__" = some (some (.builtin "ValueError.__init__")))
    (xve_e0 : PySem.W.subIn K (.ref cBadCopies) (.type "ValueError") = some true)
    (xsf_e0 : PySem.W.mroIn K cBadCopies (.ref cBadCopies) = some true)
    (xf_e0 : K.lookup f_e0 = some ⟨oc_e0, od_e0, .func (PySem.W.ksFn "__init__" "BadCopies.__init__" (S1.sA ⟨14,17,14,21⟩ ⟨14,23,14,28⟩) (S1.sB ⟨15,8,15,13⟩ ⟨15,8,15,15⟩ ⟨15,8,15,24⟩ ⟨15,25,15,30⟩ ⟨15,8,15,31⟩ ⟨15,8,15,31⟩ ⟨16,8,16,12⟩ ⟨16,8,16,18⟩ ⟨16,21,16,26⟩ ⟨16,8,16,26⟩) S1.sS .none .none dc_e0 pm_e0 an_e0 (.ref cd_e0) ct_e0 cc_e0), sl_e0⟩)
    (xcd_e0 : PySem.W.codeIn K (.ref cd_e0) "BadCopies.__init__" = true)
    (xco_e0 : K.lookup cd_e0 = some ⟨b1_e0, b2_e0, .fields vs_e0, b3_e0⟩)
    (xvs_e0 : vs_e0[2]? = some (.str file_e0 tf_e0))
    (xfl_e0 : ((l.prog.main.file : Str) == file_e0) = true)
    (xcc_e0 : K.lookup cc_e0 = some ⟨b4_e0, b5_e0, .cell (some (.ref cBadCopies)), b6_e0⟩)
    (xL_e1 : K.lookup cBadPiece = some (excClassObj nm_e1 qn_e1 cBadPiece N_e1 bs_e1 [.ref cKE, .type "ValueError", .type "Exception", .type "BaseException", .type "object"] true sn_e1 sb_e1 ab_e1 co_e1 dd_e1 m0_e1 m1_e1 m2_e1 m3_e1 m5_e1 "ValueError.__new__"))
    (xsa_e1 : PySem.W.findIn K (.ref cBadPiece) "__setattr__" = some (some (.builtin "object.__setattr__")))
    (xga_e1 : PySem.W.findIn K (.ref cBadPiece) "__getattribute__" = some (some (.builtin "BaseException.__getattribute__")))
    (xgg_e1 : PySem.W.findIn K (.ref cBadPiece) "__getattr__" = some none)
    (xno_e1 : PySem.W.findIn K (.ref cBadPiece) "value" = some none)
    (xi_e1 : PySem.W.findIn K (.ref cBadPiece) "__init__" = some (some (.ref f_e1)))
    (xt_e1 : PySem.W.typeIn K (.ref f_e1) = some (.type "function"))
    (xk_e1 : PySem.W.keepIn K (.ref cBadPiece) = true)
    (xex_e1 : PySem.W.subIn K (.ref cBadPiece) (.type "BaseException") = some true)
    (xty_e1 : PySem.W.typeIn K (.ref cBadPiece) = some (.type "type"))
    (xhd_e1 : PySem.W.hasDictIn K cBadPiece = true)
    (xsu_e1 : PySem.W.ks_superIn K cBadPiece cBadPiece "__init__" = some (some (.builtin "ValueError.__init__")))
    (xve_e1 : PySem.W.subIn K (.ref cBadPiece) (.type "ValueError") = some true)
    (xsf_e1 : PySem.W.mroIn K cBadPiece (.ref cBadPiece) = some true)
    (xf_e1 : K.lookup f_e1 = some ⟨oc_e1, od_e1, .func (PySem.W.ksFn "__init__" "BadPiece.__init__" (S1.sA ⟨19,17,19,21⟩ ⟨19,23,19,28⟩) (S1.sB ⟨20,8,20,13⟩ ⟨20,8,20,15⟩ ⟨20,8,20,24⟩ ⟨20,25,20,30⟩ ⟨20,8,20,31⟩ ⟨20,8,20,31⟩ ⟨21,8,21,12⟩ ⟨21,8,21,18⟩ ⟨21,21,21,26⟩ ⟨21,8,21,26⟩) S1.sS .none .none dc_e1 pm_e1 an_e1 (.ref cd_e1) ct_e1 cc_e1), sl_e1⟩)
    (xcd_e1 : PySem.W.codeIn K (.ref cd_e1) "BadPiece.__init__" = true)
    (xco_e1 : K.lookup cd_e1 = some ⟨b1_e1, b2_e1, .fields vs_e1, b3_e1⟩)
    (xvs_e1 : vs_e1[2]? = some (.str file_e1 tf_e1))
    (xfl_e1 : ((l.prog.main.file : Str) == file_e1) = true)
    (xcc_e1 : K.lookup cc_e1 = some ⟨b4_e1, b5_e1, .cell (some (.ref cBadPiece)), b6_e1⟩)
    (xL_e2 : K.lookup cNoCopy = some (excClassObj nm_e2 qn_e2 cNoCopy N_e2 bs_e2 [.ref cKE, .type "ValueError", .type "Exception", .type "BaseException", .type "object"] true sn_e2 sb_e2 ab_e2 co_e2 dd_e2 m0_e2 m1_e2 m2_e2 m3_e2 m5_e2 "ValueError.__new__"))
    (xsa_e2 : PySem.W.findIn K (.ref cNoCopy) "__setattr__" = some (some (.builtin "object.__setattr__")))
    (xga_e2 : PySem.W.findIn K (.ref cNoCopy) "__getattribute__" = some (some (.builtin "BaseException.__getattribute__")))
    (xgg_e2 : PySem.W.findIn K (.ref cNoCopy) "__getattr__" = some none)
    (xno_e2 : PySem.W.findIn K (.ref cNoCopy) "value" = some none)
    (xi_e2 : PySem.W.findIn K (.ref cNoCopy) "__init__" = some (some (.ref f_e2)))
    (xt_e2 : PySem.W.typeIn K (.ref f_e2) = some (.type "function"))
    (xk_e2 : PySem.W.keepIn K (.ref cNoCopy) = true)
    (xex_e2 : PySem.W.subIn K (.ref cNoCopy) (.type "BaseException") = some true)
    (xty_e2 : PySem.W.typeIn K (.ref cNoCopy) = some (.type "type"))
    (xhd_e2 : PySem.W.hasDictIn K cNoCopy = true)
    (xsu_e2 : PySem.W.ks_superIn K cNoCopy cNoCopy "__init__" = some (some (.builtin "ValueError.__init__")))
    (xve_e2 : PySem.W.subIn K (.ref cNoCopy) (.type "ValueError") = some true)
    (xsf_e2 : PySem.W.mroIn K cNoCopy (.ref cNoCopy) = some true)
    (xf_e2 : K.lookup f_e2 = some ⟨oc_e2, od_e2, .func (PySem.W.ksFn "__init__" "NoCopy.__init__" (S1.sA ⟨29,17,29,21⟩ ⟨29,23,29,28⟩) (S1.sB ⟨30,8,30,13⟩ ⟨30,8,30,15⟩ ⟨30,8,30,24⟩ ⟨30,25,30,30⟩ ⟨30,8,30,31⟩ ⟨30,8,30,31⟩ ⟨31,8,31,12⟩ ⟨31,8,31,18⟩ ⟨31,21,31,26⟩ ⟨31,8,31,26⟩) S1.sS .none .none dc_e2 pm_e2 an_e2 (.ref cd_e2) ct_e2 cc_e2), sl_e2⟩)
    (xcd_e2 : PySem.W.codeIn K (.ref cd_e2) "NoCopy.__init__" = true)
    (xco_e2 : K.lookup cd_e2 = some ⟨b1_e2, b2_e2, .fields vs_e2, b3_e2⟩)
    (xvs_e2 : vs_e2[2]? = some (.str file_e2 tf_e2))
    (xfl_e2 : ((l.prog.main.file : Str) == file_e2) = true)
    (xcc_e2 : K.lookup cc_e2 = some ⟨b4_e2, b5_e2, .cell (some (.ref cNoCopy)), b6_e2⟩)
    (xL_e3 : K.lookup cBadSpans = some (excClassObj nm_e3 qn_e3 cBadSpans N_e3 bs_e3 [.ref cKE, .type "ValueError", .type "Exception", .type "BaseException", .type "object"] true sn_e3 sb_e3 ab_e3 co_e3 dd_e3 m0_e3 m1_e3 m2_e3 m3_e3 m5_e3 "ValueError.__new__"))
    (xsa_e3 : PySem.W.findIn K (.ref cBadSpans) "__setattr__" = some (some (.builtin "object.__setattr__")))
    (xga_e3 : PySem.W.findIn K (.ref cBadSpans) "__getattribute__" = some (some (.builtin "BaseException.__getattribute__")))
    (xgg_e3 : PySem.W.findIn K (.ref cBadSpans) "__getattr__" = some none)
    (xno_e3 : PySem.W.findIn K (.ref cBadSpans) "value" = some none)
    (xi_e3 : PySem.W.findIn K (.ref cBadSpans) "__init__" = some (some (.ref f_e3)))
    (xt_e3 : PySem.W.typeIn K (.ref f_e3) = some (.type "function"))
    (xk_e3 : PySem.W.keepIn K (.ref cBadSpans) = true)
    (xex_e3 : PySem.W.subIn K (.ref cBadSpans) (.type "BaseException") = some true)
    (xty_e3 : PySem.W.typeIn K (.ref cBadSpans) = some (.type "type"))
    (xhd_e3 : PySem.W.hasDictIn K cBadSpans = true)
    (xsu_e3 : PySem.W.ks_superIn K cBadSpans cBadSpans "__init__" = some (some (.builtin "ValueError.__init__")))
    (xve_e3 : PySem.W.subIn K (.ref cBadSpans) (.type "ValueError") = some true)
    (xsf_e3 : PySem.W.mroIn K cBadSpans (.ref cBadSpans) = some true)
    (xf_e3 : K.lookup f_e3 = some ⟨oc_e3, od_e3, .func (PySem.W.ksFn "__init__" "BadSpans.__init__" (S1.sA ⟨9,17,9,21⟩ ⟨9,23,9,28⟩) (S1.sB ⟨10,8,10,13⟩ ⟨10,8,10,15⟩ ⟨10,8,10,24⟩ ⟨10,25,10,30⟩ ⟨10,8,10,31⟩ ⟨10,8,10,31⟩ ⟨11,8,11,12⟩ ⟨11,8,11,18⟩ ⟨11,21,11,26⟩ ⟨11,8,11,26⟩) S1.sS .none .none dc_e3 pm_e3 an_e3 (.ref cd_e3) ct_e3 cc_e3), sl_e3⟩)
    (xcd_e3 : PySem.W.codeIn K (.ref cd_e3) "BadSpans.__init__" = true)
    (xco_e3 : K.lookup cd_e3 = some ⟨b1_e3, b2_e3, .fields vs_e3, b3_e3⟩)
    (xvs_e3 : vs_e3[2]? = some (.str file_e3 tf_e3))
    (xfl_e3 : ((l.prog.main.file : Str) == file_e3) = true)
    (xcc_e3 : K.lookup cc_e3 = some ⟨b4_e3, b5_e3, .cell (some (.ref cBadSpans)), b6_e3⟩)
    (xL_e4 : K.lookup cBadWord = some (excClassObj nm_e4 qn_e4 cBadWord N_e4 bs_e4 [.ref cKE, .type "ValueError", .type "Exception", .type "BaseException", .type "object"] true sn_e4 sb_e4 ab_e4 co_e4 dd_e4 m0_e4 m1_e4 m2_e4 m3_e4 m5_e4 "ValueError.__new__"))
    (xsa_e4 : PySem.W.findIn K (.ref cBadWord) "__setattr__" = some (some (.builtin "object.__setattr__")))
    (xga_e4 : PySem.W.findIn K (.ref cBadWord) "__getattribute__" = some (some (.builtin "BaseException.__getattribute__")))
    (xgg_e4 : PySem.W.findIn K (.ref cBadWord) "__getattr__" = some none)
    (xno_e4 : PySem.W.findIn K (.ref cBadWord) "value" = some none)
    (xi_e4 : PySem.W.findIn K (.ref cBadWord) "__init__" = some (some (.ref f_e4)))
    (xt_e4 : PySem.W.typeIn K (.ref f_e4) = some (.type "function"))
    (xk_e4 : PySem.W.keepIn K (.ref cBadWord) = true)
    (xex_e4 : PySem.W.subIn K (.ref cBadWord) (.type "BaseException") = some true)
    (xty_e4 : PySem.W.typeIn K (.ref cBadWord) = some (.type "type"))
    (xhd_e4 : PySem.W.hasDictIn K cBadWord = true)
    (xsu_e4 : PySem.W.ks_superIn K cBadWord cBadWord "__init__" = some (some (.builtin "ValueError.__init__")))
    (xve_e4 : PySem.W.subIn K (.ref cBadWord) (.type "ValueError") = some true)
    (xsf_e4 : PySem.W.mroIn K cBadWord (.ref cBadWord) = some true)
    (xf_e4 : K.lookup f_e4 = some ⟨oc_e4, od_e4, .func (PySem.W.ksFn "__init__" "BadWord.__init__" (S1.sA ⟨24,17,24,21⟩ ⟨24,23,24,28⟩) (S1.sB ⟨25,8,25,13⟩ ⟨25,8,25,15⟩ ⟨25,8,25,24⟩ ⟨25,25,25,30⟩ ⟨25,8,25,31⟩ ⟨25,8,25,31⟩ ⟨26,8,26,12⟩ ⟨26,8,26,18⟩ ⟨26,21,26,26⟩ ⟨26,8,26,26⟩) S1.sS .none .none dc_e4 pm_e4 an_e4 (.ref cd_e4) ct_e4 cc_e4), sl_e4⟩)
    (xcd_e4 : PySem.W.codeIn K (.ref cd_e4) "BadWord.__init__" = true)
    (xco_e4 : K.lookup cd_e4 = some ⟨b1_e4, b2_e4, .fields vs_e4, b3_e4⟩)
    (xvs_e4 : vs_e4[2]? = some (.str file_e4 tf_e4))
    (xfl_e4 : ((l.prog.main.file : Str) == file_e4) = true)
    (xcc_e4 : K.lookup cc_e4 = some ⟨b4_e4, b5_e4, .cell (some (.ref cBadWord)), b6_e4⟩)
    (xL_e5 : K.lookup cNoAsk = some (excClassObj nm_e5 qn_e5 cNoAsk N_e5 bs_e5 [.ref cKE, .type "ValueError", .type "Exception", .type "BaseException", .type "object"] true sn_e5 sb_e5 ab_e5 co_e5 dd_e5 m0_e5 m1_e5 m2_e5 m3_e5 m5_e5 "ValueError.__new__"))
    (xsa_e5 : PySem.W.findIn K (.ref cNoAsk) "__setattr__" = some (some (.builtin "object.__setattr__")))
    (xga_e5 : PySem.W.findIn K (.ref cNoAsk) "__getattribute__" = some (some (.builtin "BaseException.__getattribute__")))
    (xgg_e5 : PySem.W.findIn K (.ref cNoAsk) "__getattr__" = some none)
    (xno_e5 : PySem.W.findIn K (.ref cNoAsk) "value" = some none)
    (xi_e5 : PySem.W.findIn K (.ref cNoAsk) "__init__" = some (some (.ref f_e5)))
    (xt_e5 : PySem.W.typeIn K (.ref f_e5) = some (.type "function"))
    (xk_e5 : PySem.W.keepIn K (.ref cNoAsk) = true)
    (xex_e5 : PySem.W.subIn K (.ref cNoAsk) (.type "BaseException") = some true)
    (xty_e5 : PySem.W.typeIn K (.ref cNoAsk) = some (.type "type"))
    (xhd_e5 : PySem.W.hasDictIn K cNoAsk = true)
    (xsu_e5 : PySem.W.ks_superIn K cNoAsk cNoAsk "__init__" = some (some (.builtin "ValueError.__init__")))
    (xve_e5 : PySem.W.subIn K (.ref cNoAsk) (.type "ValueError") = some true)
    (xsf_e5 : PySem.W.mroIn K cNoAsk (.ref cNoAsk) = some true)
    (xf_e5 : K.lookup f_e5 = some ⟨oc_e5, od_e5, .func (PySem.W.ksFn "__init__" "NoAsk.__init__" (S1.sA ⟨34,17,34,21⟩ ⟨34,23,34,28⟩) (S1.sB ⟨35,8,35,13⟩ ⟨35,8,35,15⟩ ⟨35,8,35,24⟩ ⟨35,25,35,30⟩ ⟨35,8,35,31⟩ ⟨35,8,35,31⟩ ⟨36,8,36,12⟩ ⟨36,8,36,18⟩ ⟨36,21,36,26⟩ ⟨36,8,36,26⟩) S1.sS .none .none dc_e5 pm_e5 an_e5 (.ref cd_e5) ct_e5 cc_e5), sl_e5⟩)
    (xcd_e5 : PySem.W.codeIn K (.ref cd_e5) "NoAsk.__init__" = true)
    (xco_e5 : K.lookup cd_e5 = some ⟨b1_e5, b2_e5, .fields vs_e5, b3_e5⟩)
    (xvs_e5 : vs_e5[2]? = some (.str file_e5 tf_e5))
    (xfl_e5 : ((l.prog.main.file : Str) == file_e5) = true)
    (xcc_e5 : K.lookup cc_e5 = some ⟨b4_e5, b5_e5, .cell (some (.ref cNoAsk)), b6_e5⟩)
    (ys_0_0 : PySem.W.subIn K (.ref cBadCopies) (.ref cBadCopies) = some true)
    (ys_1_0 : PySem.W.subIn K (.ref cBadPiece) (.ref cBadCopies) = some false)
    (ys_1_1 : PySem.W.subIn K (.ref cBadPiece) (.ref cBadPiece) = some true)
    (a0 : PySem.W.nsIn K mainGlobals "reached" = some (some (.ref f0)))
    (l0 : K.lookup f0 = some ⟨oc0, od0, .func (PySem.W.fnOf "reached" "reached" (defArgs s_reached) (defBody s_reached) (defScope s_reached) .none kV0 dc0 pm0 an0 cd0 ct0), sl0⟩)
    (c0 : PySem.W.codeIn K cd0 "reached" = true)
    (k0 : PySem.W.keepIn K (.ref f0) = true)
    (a1 : PySem.W.nsIn K mainGlobals "turned" = some (some (.ref f1)))
    (l1 : K.lookup f1 = some ⟨oc1, od1, .func (PySem.W.fnOf "turned" "turned" (defArgs s_turned) (defBody s_turned) (defScope s_turned) .none kV1 dc1 pm1 an1 cd1 ct1), sl1⟩)
    (c1 : PySem.W.codeIn K cd1 "turned" = true)
    (k1 : PySem.W.keepIn K (.ref f1) = true)
    (a2 : PySem.W.nsIn K mainGlobals "masks_by" = some (some (.ref f2)))
    (l2 : K.lookup f2 = some ⟨oc2, od2, .func (PySem.W.fnOf "masks_by" "masks_by" (defArgs s_masks_by) (defBody s_masks_by) (defScope s_masks_by) .none kV2 dc2 pm2 an2 cd2 ct2), sl2⟩)
    (c2 : PySem.W.codeIn K cd2 "masks_by" = true)
    (k2 : PySem.W.keepIn K (.ref f2) = true)
    (a3 : PySem.W.findIn K (.ref cSteps) "words_of" = some (some (.ref f3)))
    (i3 : PySem.W.isFn K (.ref f3) = true)
    (l3 : K.lookup f3 = some ⟨oc3, od3, .func (PySem.W.fnOf "words_of" "Steps.words_of" (defArgs s_Steps_words_of) (defBody s_Steps_words_of) (defScope s_Steps_words_of) .none kV3 dc3 pm3 an3 cd3 ct3), sl3⟩)
    (c3 : PySem.W.codeIn K cd3 "Steps.words_of" = true)
    (k3 : PySem.W.keepIn K (.ref f3) = true)
    (a4 : PySem.W.findIn K (.ref cSteps) "older_masks" = some (some (.ref f4)))
    (i4 : PySem.W.isFn K (.ref f4) = true)
    (l4 : K.lookup f4 = some ⟨oc4, od4, .func (PySem.W.fnOf "older_masks" "Steps.older_masks" (defArgs s_Steps_older_masks) (defBody s_Steps_older_masks) (defScope s_Steps_older_masks) .none kV4 dc4 pm4 an4 cd4 ct4), sl4⟩)
    (c4 : PySem.W.codeIn K cd4 "Steps.older_masks" = true)
    (k4 : PySem.W.keepIn K (.ref f4) = true)
    (a5 : PySem.W.findIn K (.ref cSteps) "book_of" = some (some (.ref f5)))
    (i5 : PySem.W.isFn K (.ref f5) = true)
    (l5 : K.lookup f5 = some ⟨oc5, od5, .func (PySem.W.fnOf "book_of" "Steps.book_of" (defArgs s_Steps_book_of) (defBody s_Steps_book_of) (defScope s_Steps_book_of) .none kV5 dc5 pm5 an5 cd5 ct5), sl5⟩)
    (c5 : PySem.W.codeIn K cd5 "Steps.book_of" = true)
    (k5 : PySem.W.keepIn K (.ref f5) = true)
    (a6 : PySem.W.findIn K (.ref cSteps) "rings_of" = some (some (.ref f6)))
    (i6 : PySem.W.isFn K (.ref f6) = true)
    (l6 : K.lookup f6 = some ⟨oc6, od6, .func (PySem.W.fnOf "rings_of" "Steps.rings_of" (defArgs s_Steps_rings_of) (defBody s_Steps_rings_of) (defScope s_Steps_rings_of) .none kV6 dc6 pm6 an6 cd6 ct6), sl6⟩)
    (c6 : PySem.W.codeIn K cd6 "Steps.rings_of" = true)
    (k6 : PySem.W.keepIn K (.ref f6) = true)
    (a7 : PySem.W.nsIn K mainGlobals "under_pairs" = some (some (.ref f7)))
    (l7 : K.lookup f7 = some ⟨oc7, od7, .func (PySem.W.fnOf "under_pairs" "under_pairs" (defArgs s_under_pairs) (defBody s_under_pairs) (defScope s_under_pairs) .none kV7 dc7 pm7 an7 cd7 ct7), sl7⟩)
    (c7 : PySem.W.codeIn K cd7 "under_pairs" = true)
    (k7 : PySem.W.keepIn K (.ref f7) = true)
    (a8 : PySem.W.findIn K (.ref cSteps) "__init__" = some (some (.ref f8)))
    (i8 : PySem.W.isFn K (.ref f8) = true)
    (l8 : K.lookup f8 = some ⟨oc8, od8, .func (PySem.W.fnOf "__init__" "Steps.__init__" (defArgs s_Steps_init) (defBody s_Steps_init) (defScope s_Steps_init) .none kV8 dc8 pm8 an8 cd8 ct8), sl8⟩)
    (c8 : PySem.W.codeIn K cd8 "Steps.__init__" = true)
    (k8 : PySem.W.keepIn K (.ref f8) = true)
    (a9 : PySem.W.findIn K (.ref cContents) "told_by_groups" = some (some (.ref f9)))
    (i9 : PySem.W.isFn K (.ref f9) = true)
    (l9 : K.lookup f9 = some ⟨oc9, od9, .func (PySem.W.fnOf "told_by_groups" "Contents.told_by_groups" (defArgs s_Contents_told_by_groups) (defBody s_Contents_told_by_groups) (defScope s_Contents_told_by_groups) .none kV9 dc9 pm9 an9 cd9 ct9), sl9⟩)
    (c9 : PySem.W.codeIn K cd9 "Contents.told_by_groups" = true)
    (k9 : PySem.W.keepIn K (.ref f9) = true)
    (a10 : PySem.W.findIn K (.ref cContents) "__init__" = some (some (.ref f10)))
    (i10 : PySem.W.isFn K (.ref f10) = true)
    (l10 : K.lookup f10 = some ⟨oc10, od10, .func (PySem.W.fnOf "__init__" "Contents.__init__" (defArgs s_Contents_init) (defBody s_Contents_init) (defScope s_Contents_init) .none kV10 dc10 pm10 an10 cd10 ct10), sl10⟩)
    (c10 : PySem.W.codeIn K cd10 "Contents.__init__" = true)
    (k10 : PySem.W.keepIn K (.ref f10) = true)
    (a11 : PySem.W.findIn K (.ref cKnowledge) "is_sound" = some (some (.ref f11)))
    (i11 : PySem.W.isFn K (.ref f11) = true)
    (l11 : K.lookup f11 = some ⟨oc11, od11, .func (PySem.W.fnOf "is_sound" "Knowledge.is_sound" (defArgs s_Knowledge_is_sound) (defBody s_Knowledge_is_sound) (defScope s_Knowledge_is_sound) .none kV11 dc11 pm11 an11 cd11 ct11), sl11⟩)
    (c11 : PySem.W.codeIn K cd11 "Knowledge.is_sound" = true)
    (k11 : PySem.W.keepIn K (.ref f11) = true)
    (a12 : PySem.W.findIn K (.ref cKnowledge) "__init__" = some (some (.ref f12)))
    (i12 : PySem.W.isFn K (.ref f12) = true)
    (l12 : K.lookup f12 = some ⟨oc12, od12, .func (PySem.W.fnOf "__init__" "Knowledge.__init__" (defArgs s_Knowledge_init) (defBody s_Knowledge_init) (defScope s_Knowledge_init) .none kV12 dc12 pm12 an12 cd12 ct12), sl12⟩)
    (c12 : PySem.W.codeIn K cd12 "Knowledge.__init__" = true)
    (k12 : PySem.W.keepIn K (.ref f12) = true)
    (a13 : PySem.W.findIn K (.ref cState) "__init__" = some (some (.ref f13)))
    (i13 : PySem.W.isFn K (.ref f13) = true)
    (l13 : K.lookup f13 = some ⟨oc13, od13, .func (PySem.W.fnOf "__init__" "State.__init__" (defArgs s_State_init) (defBody s_State_init) (defScope s_State_init) .none kV13 dc13 pm13 an13 cd13 ct13), sl13⟩)
    (c13 : PySem.W.codeIn K cd13 "State.__init__" = true)
    (k13 : PySem.W.keepIn K (.ref f13) = true)
    (a14 : PySem.W.nsIn K mainGlobals "knowledge_of" = some (some (.ref f14)))
    (l14 : K.lookup f14 = some ⟨oc14, od14, .func (PySem.W.fnOf "knowledge_of" "knowledge_of" (defArgs s_knowledge_of) (defBody s_knowledge_of) (defScope s_knowledge_of) .none kV14 dc14 pm14 an14 cd14 ct14), sl14⟩)
    (c14 : PySem.W.codeIn K cd14 "knowledge_of" = true)
    (k14 : PySem.W.keepIn K (.ref f14) = true)
    (a15 : PySem.W.nsIn K mainGlobals "laid" = some (some (.ref f15)))
    (l15 : K.lookup f15 = some ⟨oc15, od15, .func (PySem.W.fnOf "laid" "laid" (defArgs s_laid) (defBody s_laid) (defScope s_laid) .none kV15 dc15 pm15 an15 cd15 ct15), sl15⟩)
    (c15 : PySem.W.codeIn K cd15 "laid" = true)
    (k15 : PySem.W.keepIn K (.ref f15) = true)
    (a16 : PySem.W.nsIn K mainGlobals "is_integer" = some (some (.ref f16)))
    (l16 : K.lookup f16 = some ⟨oc16, od16, .func (PySem.W.fnOf "is_integer" "is_integer" (defArgs s_is_integer) (defBody s_is_integer) (defScope s_is_integer) .none kV16 dc16 pm16 an16 cd16 ct16), sl16⟩)
    (c16 : PySem.W.codeIn K cd16 "is_integer" = true)
    (k16 : PySem.W.keepIn K (.ref f16) = true)
    (a17 : PySem.W.nsIn K mainGlobals "is_within" = some (some (.ref f17)))
    (l17 : K.lookup f17 = some ⟨oc17, od17, .func (PySem.W.fnOf "is_within" "is_within" (defArgs s_is_within) (defBody s_is_within) (defScope s_is_within) .none kV17 dc17 pm17 an17 cd17 ct17), sl17⟩)
    (c17 : PySem.W.codeIn K cd17 "is_within" = true)
    (k17 : PySem.W.keepIn K (.ref f17) = true)
    (a18 : PySem.W.nsIn K mainGlobals "is_made_of" = some (some (.ref f18)))
    (l18 : K.lookup f18 = some ⟨oc18, od18, .func (PySem.W.fnOf "is_made_of" "is_made_of" (defArgs s_is_made_of) (defBody s_is_made_of) (defScope s_is_made_of) .none kV18 dc18 pm18 an18 cd18 ct18), sl18⟩)
    (c18 : PySem.W.codeIn K cd18 "is_made_of" = true)
    (k18 : PySem.W.keepIn K (.ref f18) = true)
    (a19 : PySem.W.nsIn K mainGlobals "is_copy_name" = some (some (.ref f19)))
    (l19 : K.lookup f19 = some ⟨oc19, od19, .func (PySem.W.fnOf "is_copy_name" "is_copy_name" (defArgs s_is_copy_name) (defBody s_is_copy_name) (defScope s_is_copy_name) .none kV19 dc19 pm19 an19 cd19 ct19), sl19⟩)
    (c19 : PySem.W.codeIn K cd19 "is_copy_name" = true)
    (k19 : PySem.W.keepIn K (.ref f19) = true)
    (a20 : PySem.W.nsIn K mainGlobals "is_piece" = some (some (.ref f20)))
    (l20 : K.lookup f20 = some ⟨oc20, od20, .func (PySem.W.fnOf "is_piece" "is_piece" (defArgs s_is_piece) (defBody s_is_piece) (defScope s_is_piece) .none kV20 dc20 pm20 an20 cd20 ct20), sl20⟩)
    (c20 : PySem.W.codeIn K cd20 "is_piece" = true)
    (k20 : PySem.W.keepIn K (.ref f20) = true)
    (a21 : PySem.W.nsIn K mainGlobals "is_ring_free" = some (some (.ref f21)))
    (l21 : K.lookup f21 = some ⟨oc21, od21, .func (PySem.W.fnOf "is_ring_free" "is_ring_free" (defArgs s_is_ring_free) (defBody s_is_ring_free) (defScope s_is_ring_free) .none kV21 dc21 pm21 an21 cd21 ct21), sl21⟩)
    (c21 : PySem.W.codeIn K cd21 "is_ring_free" = true)
    (k21 : PySem.W.keepIn K (.ref f21) = true)
    (a22 : PySem.W.nsIn K mainGlobals "are_copies" = some (some (.ref f22)))
    (l22 : K.lookup f22 = some ⟨oc22, od22, .func (PySem.W.fnOf "are_copies" "are_copies" (defArgs s_are_copies) (defBody s_are_copies) (defScope s_are_copies) .none kV22 dc22 pm22 an22 cd22 ct22), sl22⟩)
    (c22 : PySem.W.codeIn K cd22 "are_copies" = true)
    (k22 : PySem.W.keepIn K (.ref f22) = true)
    (a23 : PySem.W.findIn K (.ref cKeeper) "__init__" = some (some (.ref f23)))
    (i23 : PySem.W.isFn K (.ref f23) = true)
    (l23 : K.lookup f23 = some ⟨oc23, od23, .func (PySem.W.fnOf "__init__" "Keeper.__init__" (defArgs s_Keeper_init) (defBody s_Keeper_init) (defScope s_Keeper_init) .none (.ref D23) dc23 pm23 an23 cd23 ct23), sl23⟩)
    (c23 : PySem.W.codeIn K cd23 "Keeper.__init__" = true)
    (k23 : PySem.W.keepIn K (.ref f23) = true)
    (kw23 : PySem.W.nsIn K D23 "piece" = some (some (.int 4 tk23)))
    (a24 : PySem.W.findIn K (.ref cKeeper) "copies" = some (some (.ref p24)))
    (pg24 : PySem.W.specialIn K (.ref p24) "__get__" = some (some (.builtin "property.__get__")))
    (pt24 : PySem.W.takesIn K (.ref p24) = some true)
    (pr24 : PySem.W.recIn K p24 "property" = some (.ref f24 :: rest24))
    (l24 : K.lookup f24 = some ⟨oc24, od24, .func (PySem.W.fnOf "copies" "Keeper.copies" (defArgs s_Keeper_copies) (defBody s_Keeper_copies) (defScope s_Keeper_copies) .none kV24 dc24 pm24 an24 cd24 ct24), sl24⟩)
    (c24 : PySem.W.codeIn K cd24 "Keeper.copies" = true)
    (k24 : PySem.W.keepIn K (.ref f24) = true)
    (a25 : PySem.W.findIn K (.ref cKeeper) "piece" = some (some (.ref p25)))
    (pg25 : PySem.W.specialIn K (.ref p25) "__get__" = some (some (.builtin "property.__get__")))
    (pt25 : PySem.W.takesIn K (.ref p25) = some true)
    (pr25 : PySem.W.recIn K p25 "property" = some (.ref f25 :: rest25))
    (l25 : K.lookup f25 = some ⟨oc25, od25, .func (PySem.W.fnOf "piece" "Keeper.piece" (defArgs s_Keeper_piece) (defBody s_Keeper_piece) (defScope s_Keeper_piece) .none kV25 dc25 pm25 an25 cd25 ct25), sl25⟩)
    (c25 : PySem.W.codeIn K cd25 "Keeper.piece" = true)
    (k25 : PySem.W.keepIn K (.ref f25) = true)
    (a26 : PySem.W.findIn K (.ref cKeeper) "now" = some (some (.ref p26)))
    (pg26 : PySem.W.specialIn K (.ref p26) "__get__" = some (some (.builtin "property.__get__")))
    (pt26 : PySem.W.takesIn K (.ref p26) = some true)
    (pr26 : PySem.W.recIn K p26 "property" = some (.ref f26 :: rest26))
    (l26 : K.lookup f26 = some ⟨oc26, od26, .func (PySem.W.fnOf "now" "Keeper.now" (defArgs s_Keeper_now) (defBody s_Keeper_now) (defScope s_Keeper_now) .none kV26 dc26 pm26 an26 cd26 ct26), sl26⟩)
    (c26 : PySem.W.codeIn K cd26 "Keeper.now" = true)
    (k26 : PySem.W.keepIn K (.ref f26) = true)
    (a27 : PySem.W.findIn K (.ref cKeeper) "open_asks" = some (some (.ref p27)))
    (pg27 : PySem.W.specialIn K (.ref p27) "__get__" = some (some (.builtin "property.__get__")))
    (pt27 : PySem.W.takesIn K (.ref p27) = some true)
    (pr27 : PySem.W.recIn K p27 "property" = some (.ref f27 :: rest27))
    (l27 : K.lookup f27 = some ⟨oc27, od27, .func (PySem.W.fnOf "open_asks" "Keeper.open_asks" (defArgs s_Keeper_open_asks) (defBody s_Keeper_open_asks) (defScope s_Keeper_open_asks) .none kV27 dc27 pm27 an27 cd27 ct27), sl27⟩)
    (c27 : PySem.W.codeIn K cd27 "Keeper.open_asks" = true)
    (k27 : PySem.W.keepIn K (.ref f27) = true)
    (a28 : PySem.W.findIn K (.ref cKeeper) "answers" = some (some (.ref p28)))
    (pg28 : PySem.W.specialIn K (.ref p28) "__get__" = some (some (.builtin "property.__get__")))
    (pt28 : PySem.W.takesIn K (.ref p28) = some true)
    (pr28 : PySem.W.recIn K p28 "property" = some (.ref f28 :: rest28))
    (l28 : K.lookup f28 = some ⟨oc28, od28, .func (PySem.W.fnOf "answers" "Keeper.answers" (defArgs s_Keeper_answers) (defBody s_Keeper_answers) (defScope s_Keeper_answers) .none kV28 dc28 pm28 an28 cd28 ct28), sl28⟩)
    (c28 : PySem.W.codeIn K cd28 "Keeper.answers" = true)
    (k28 : PySem.W.keepIn K (.ref f28) = true)
    (a29 : PySem.W.findIn K (.ref cKeeper) "groups" = some (some (.ref f29)))
    (i29 : PySem.W.isFn K (.ref f29) = true)
    (l29 : K.lookup f29 = some ⟨oc29, od29, .func (PySem.W.fnOf "groups" "Keeper.groups" (defArgs s_Keeper_groups) (defBody s_Keeper_groups) (defScope s_Keeper_groups) .none kV29 dc29 pm29 an29 cd29 ct29), sl29⟩)
    (c29 : PySem.W.codeIn K cd29 "Keeper.groups" = true)
    (k29 : PySem.W.keepIn K (.ref f29) = true)
    (a30 : PySem.W.nsIn K mainGlobals "_law_any" = some (some (.ref f30)))
    (l30 : K.lookup f30 = some ⟨oc30, od30, .func (PySem.W.fnOf "_law_any" "_law_any" (defArgs s_law_any) (defBody s_law_any) (defScope s_law_any) .none kV30 dc30 pm30 an30 cd30 ct30), sl30⟩)
    (c30 : PySem.W.codeIn K cd30 "_law_any" = true)
    (k30 : PySem.W.keepIn K (.ref f30) = true)
    (a31 : PySem.W.nsIn K mainGlobals "_law_words" = some (some (.ref f31)))
    (l31 : K.lookup f31 = some ⟨oc31, od31, .func (PySem.W.fnOf "_law_words" "_law_words" (defArgs s_law_words) (defBody s_law_words) (defScope s_law_words) .none kV31 dc31 pm31 an31 cd31 ct31), sl31⟩)
    (c31 : PySem.W.codeIn K cd31 "_law_words" = true)
    (k31 : PySem.W.keepIn K (.ref f31) = true)
    (a32 : PySem.W.nsIn K mainGlobals "_law_copies" = some (some (.ref f32)))
    (l32 : K.lookup f32 = some ⟨oc32, od32, .func (PySem.W.fnOf "_law_copies" "_law_copies" (defArgs s_law_copies) (defBody s_law_copies) (defScope s_law_copies) .none kV32 dc32 pm32 an32 cd32 ct32), sl32⟩)
    (c32 : PySem.W.codeIn K cd32 "_law_copies" = true)
    (k32 : PySem.W.keepIn K (.ref f32) = true)
    (a33 : PySem.W.nsIn K mainGlobals "_law_spoilt" = some (some (.ref f33)))
    (l33 : K.lookup f33 = some ⟨oc33, od33, .func (PySem.W.fnOf "_law_spoilt" "_law_spoilt" (defArgs s_law_spoilt) (defBody s_law_spoilt) (defScope s_law_spoilt) .none kV33 dc33 pm33 an33 cd33 ct33), sl33⟩)
    (c33 : PySem.W.codeIn K cd33 "_law_spoilt" = true)
    (k33 : PySem.W.keepIn K (.ref f33) = true)
    (a34 : PySem.W.nsIn K mainGlobals "_law_is_name" = some (some (.ref f34)))
    (l34 : K.lookup f34 = some ⟨oc34, od34, .func (PySem.W.fnOf "_law_is_name" "_law_is_name" (defArgs s_law_is_name) (defBody s_law_is_name) (defScope s_law_is_name) .none kV34 dc34 pm34 an34 cd34 ct34), sl34⟩)
    (c34 : PySem.W.codeIn K cd34 "_law_is_name" = true)
    (k34 : PySem.W.keepIn K (.ref f34) = true)
    (a35 : PySem.W.nsIn K mainGlobals "_law_are_pairs" = some (some (.ref f35)))
    (l35 : K.lookup f35 = some ⟨oc35, od35, .func (PySem.W.fnOf "_law_are_pairs" "_law_are_pairs" (defArgs s_law_are_pairs) (defBody s_law_are_pairs) (defScope s_law_are_pairs) .none kV35 dc35 pm35 an35 cd35 ct35), sl35⟩)
    (c35 : PySem.W.codeIn K cd35 "_law_are_pairs" = true)
    (k35 : PySem.W.keepIn K (.ref f35) = true)
    (a36 : PySem.W.nsIn K mainGlobals "_law_are_copies" = some (some (.ref f36)))
    (l36 : K.lookup f36 = some ⟨oc36, od36, .func (PySem.W.fnOf "_law_are_copies" "_law_are_copies" (defArgs s_law_are_copies) (defBody s_law_are_copies) (defScope s_law_are_copies) .none kV36 dc36 pm36 an36 cd36 ct36), sl36⟩)
    (c36 : PySem.W.codeIn K cd36 "_law_are_copies" = true)
    (k36 : PySem.W.keepIn K (.ref f36) = true)
    (a37 : PySem.W.nsIn K mainGlobals "_law_caught" = some (some (.ref f37)))
    (l37 : K.lookup f37 = some ⟨oc37, od37, .func (PySem.W.fnOf "_law_caught" "_law_caught" (defArgs s_law_caught) (defBody s_law_caught) (defScope s_law_caught) .none kV37 dc37 pm37 an37 cd37 ct37), sl37⟩)
    (c37 : PySem.W.codeIn K cd37 "_law_caught" = true)
    (k37 : PySem.W.keepIn K (.ref f37) = true)
    (a38 : PySem.W.nsIn K mainGlobals "_law_right" = some (some (.ref f38)))
    (l38 : K.lookup f38 = some ⟨oc38, od38, .func (PySem.W.fnOf "_law_right" "_law_right" (defArgs s_law_right) (defBody s_law_right) (defScope s_law_right) .none kV38 dc38 pm38 an38 (.ref kT0) ct38), sl38⟩)
    (c38 : PySem.W.codeIn K (.ref kT0) "_law_right" = true)
    (k38 : PySem.W.keepIn K (.ref f38) = true)
    (lc38 : K.lookup kT0 = some ⟨y138, y238, .fields vc38, y338⟩)
    (hv38 : vc38[11]? = some (.ref T0))
    (nt38 : K.lookup T0 = none)
    (rc38 : (recsOf q).find? (fun e => e.name == ("_law_right" : Str)) = some rec38)
    (a39 : PySem.W.nsIn K mainGlobals "law" = some (some (.ref f39)))
    (l39 : K.lookup f39 = some ⟨oc39, od39, .func (PySem.W.fnOf "law" "law" (defArgs s_law) (defBody s_law) (defScope s_law) .none kV39 dc39 pm39 an39 cd39 ct39), sl39⟩)
    (c39 : PySem.W.codeIn K cd39 "law" = true)
    (k39 : PySem.W.keepIn K (.ref f39) = true)
    (aS0 : PySem.W.nsIn K mainGlobals "_law_pot" = some (some (.ref fS0)))
    (lS0 : K.lookup fS0 = some ⟨ocS0, odS0, .func (PySem.W.fnOf "_law_pot" "_law_pot" (defArgs S1.s_law_pot) (defBody S1.s_law_pot) (defScope S1.s_law_pot) .none kVS0 dcS0 pmS0 anS0 cdS0 ctS0), slS0⟩)
    (cS0 : PySem.W.codeIn K cdS0 "_law_pot" = true)
    (kS0 : PySem.W.keepIn K (.ref fS0) = true)
    (aS1 : PySem.W.nsIn K mainGlobals "_law_draw" = some (some (.ref fS1)))
    (lS1 : K.lookup fS1 = some ⟨ocS1, odS1, .func (PySem.W.fnOf "_law_draw" "_law_draw" (defArgs S1.s_law_draw) (defBody S1.s_law_draw) (defScope S1.s_law_draw) .none kVS1 dcS1 pmS1 anS1 cdS1 ctS1), slS1⟩)
    (cS1 : PySem.W.codeIn K cdS1 "_law_draw" = true)
    (kS1 : PySem.W.keepIn K (.ref fS1) = true)
    : S1.AtTG l w K 16 63 "_law_script" mg fa h := by
  have e := hfa.symm.trans (PySem.W.mg_of X G a39)
  cases e
  let A : Ad := ⟨cRecord, cState, cSteps, cContents, cKnowledge, cKeeper, cSpans, cNoCopy, cBadSpans, cBadWord, cNoAsk, cNoCopy, cBadCopies, cBadPiece⟩
  have cls_Record : Cls K cRecord := ⟨pg_Record, hd_Record, po_Record, sa_Record⟩
  have cls_State : Cls K cState := ⟨pg_State, hd_State, po_State, sa_State⟩
  have cls_Steps : Cls K cSteps := ⟨pg_Steps, hd_Steps, po_Steps, sa_Steps⟩
  have cls_Contents : Cls K cContents := ⟨pg_Contents, hd_Contents, po_Contents, sa_Contents⟩
  have cls_Knowledge : Cls K cKnowledge := ⟨pg_Knowledge, hd_Knowledge, po_Knowledge, sa_Knowledge⟩
  have cls_Keeper : Cls K cKeeper := ⟨pg_Keeper, hd_Keeper, po_Keeper, sa_Keeper⟩
  have cls_Spans : Cls K cSpans := ⟨pg_Spans, hd_Spans, po_Spans, sa_Spans⟩
  have cf_Record : ClsF K cRecord ["seen_at", "mark_told", "weak_told", "length_told", "names_told", "not_marks", "byte_book", "has_head", "is_ended"] := ⟨cls_Record, (List.forall_mem_cons.mpr ⟨na_Record_seen_at, (List.forall_mem_cons.mpr ⟨na_Record_mark_told, (List.forall_mem_cons.mpr ⟨na_Record_weak_told, (List.forall_mem_cons.mpr ⟨na_Record_length_told, (List.forall_mem_cons.mpr ⟨na_Record_names_told, (List.forall_mem_cons.mpr ⟨na_Record_not_marks, (List.forall_mem_cons.mpr ⟨na_Record_byte_book, (List.forall_mem_cons.mpr ⟨na_Record_has_head, (List.forall_mem_cons.mpr ⟨na_Record_is_ended, (fun _ h => absurd h List.not_mem_nil)⟩)⟩)⟩)⟩)⟩)⟩)⟩)⟩)⟩)⟩
  have cf_State : ClsF K cState ["copy_pairs", "piece_length", "time_now", "next_number", "ask_book", "answer_book", "fold_book", "knowledge"] := ⟨cls_State, (List.forall_mem_cons.mpr ⟨na_State_copy_pairs, (List.forall_mem_cons.mpr ⟨na_State_piece_length, (List.forall_mem_cons.mpr ⟨na_State_time_now, (List.forall_mem_cons.mpr ⟨na_State_next_number, (List.forall_mem_cons.mpr ⟨na_State_ask_book, (List.forall_mem_cons.mpr ⟨na_State_answer_book, (List.forall_mem_cons.mpr ⟨na_State_fold_book, (List.forall_mem_cons.mpr ⟨na_State_knowledge, (fun _ h => absurd h List.not_mem_nil)⟩)⟩)⟩)⟩)⟩)⟩)⟩)⟩)⟩
  have cf_Steps : ClsF K cSteps ["records", "numbers", "under_book", "meaning_from", "edition_from", "older_from", "group_of", "ring_of", "group_rows", "rings"] := ⟨cls_Steps, (List.forall_mem_cons.mpr ⟨na_Steps_records, (List.forall_mem_cons.mpr ⟨na_Steps_numbers, (List.forall_mem_cons.mpr ⟨na_Steps_under_book, (List.forall_mem_cons.mpr ⟨na_Steps_meaning_from, (List.forall_mem_cons.mpr ⟨na_Steps_edition_from, (List.forall_mem_cons.mpr ⟨na_Steps_older_from, (List.forall_mem_cons.mpr ⟨na_Steps_group_of, (List.forall_mem_cons.mpr ⟨na_Steps_ring_of, (List.forall_mem_cons.mpr ⟨na_Steps_group_rows, (List.forall_mem_cons.mpr ⟨na_Steps_rings, (fun _ h => absurd h List.not_mem_nil)⟩)⟩)⟩)⟩)⟩)⟩)⟩)⟩)⟩)⟩)⟩
  have cf_Contents : ClsF K cContents ["records", "piece_length", "least_of", "members_of", "mark_of", "weak_of", "length_of", "names_of", "not_marks_of", "is_torn", "own_bytes", "piece_bytes", "piece_sizes", "bytes_of"] := ⟨cls_Contents, (List.forall_mem_cons.mpr ⟨na_Contents_records, (List.forall_mem_cons.mpr ⟨na_Contents_piece_length, (List.forall_mem_cons.mpr ⟨na_Contents_least_of, (List.forall_mem_cons.mpr ⟨na_Contents_members_of, (List.forall_mem_cons.mpr ⟨na_Contents_mark_of, (List.forall_mem_cons.mpr ⟨na_Contents_weak_of, (List.forall_mem_cons.mpr ⟨na_Contents_length_of, (List.forall_mem_cons.mpr ⟨na_Contents_names_of, (List.forall_mem_cons.mpr ⟨na_Contents_not_marks_of, (List.forall_mem_cons.mpr ⟨na_Contents_is_torn, (List.forall_mem_cons.mpr ⟨na_Contents_own_bytes, (List.forall_mem_cons.mpr ⟨na_Contents_piece_bytes, (List.forall_mem_cons.mpr ⟨na_Contents_piece_sizes, (List.forall_mem_cons.mpr ⟨na_Contents_bytes_of, (fun _ h => absurd h List.not_mem_nil)⟩)⟩)⟩)⟩)⟩)⟩)⟩)⟩)⟩)⟩)⟩)⟩)⟩)⟩)⟩
  have cf_Knowledge : ClsF K cKnowledge ["records", "steps", "contents", "world_found"] := ⟨cls_Knowledge, (List.forall_mem_cons.mpr ⟨na_Knowledge_records, (List.forall_mem_cons.mpr ⟨na_Knowledge_steps, (List.forall_mem_cons.mpr ⟨na_Knowledge_contents, (List.forall_mem_cons.mpr ⟨na_Knowledge_world_found, (fun _ h => absurd h List.not_mem_nil)⟩)⟩)⟩)⟩)⟩
  have cf_Keeper : ClsF K cKeeper ["state", "depth", "trial_number", "trials_begun"] := ⟨cls_Keeper, (List.forall_mem_cons.mpr ⟨na_Keeper_state, (List.forall_mem_cons.mpr ⟨na_Keeper_depth, (List.forall_mem_cons.mpr ⟨na_Keeper_trial_number, (List.forall_mem_cons.mpr ⟨na_Keeper_trials_begun, (fun _ h => absurd h List.not_mem_nil)⟩)⟩)⟩)⟩)⟩
  have cf_Spans : ClsF K cSpans ["pairs", "many_positions"] := ⟨cls_Spans, (List.forall_mem_cons.mpr ⟨na_Spans_pairs, (List.forall_mem_cons.mpr ⟨na_Spans_many_positions, (fun _ h => absurd h List.not_mem_nil)⟩)⟩)⟩
  have x_BadCopies : ErrF l.prog K mg "BadCopies" cBadCopies := ⟨⟨f_e0, "BadCopies.__init__", ⟨⟨_, _, _, _, _, _, _, _, _, _, _, _, _, _, _, xL_e0, rfl⟩, xsa_e0, xga_e0, xgg_e0, xno_e0, xi_e0, xt_e0, xk_e0, xex_e0, xty_e0, xhd_e0, xsu_e0, xve_e0, xsf_e0, xop, xns, xtop, ⟨_, _, _, _, _, _, _, _, _, _, _, _, _, _, _, _, _, _, _, _, _, xf_e0, (fun env => by rfl), xcd_e0, ⟨_, _, _, _, _, _, xco_e0, xvs_e0, xfl_e0⟩, _, _, _, xcc_e0⟩⟩⟩, PySem.W.mg_of X G g_BadCopies⟩
  have x_BadPiece : ErrF l.prog K mg "BadPiece" cBadPiece := ⟨⟨f_e1, "BadPiece.__init__", ⟨⟨_, _, _, _, _, _, _, _, _, _, _, _, _, _, _, xL_e1, rfl⟩, xsa_e1, xga_e1, xgg_e1, xno_e1, xi_e1, xt_e1, xk_e1, xex_e1, xty_e1, xhd_e1, xsu_e1, xve_e1, xsf_e1, xop, xns, xtop, ⟨_, _, _, _, _, _, _, _, _, _, _, _, _, _, _, _, _, _, _, _, _, xf_e1, (fun env => by rfl), xcd_e1, ⟨_, _, _, _, _, _, xco_e1, xvs_e1, xfl_e1⟩, _, _, _, xcc_e1⟩⟩⟩, PySem.W.mg_of X G g_BadPiece⟩
  have x_NoCopy : ErrF l.prog K mg "NoCopy" cNoCopy := ⟨⟨f_e2, "NoCopy.__init__", ⟨⟨_, _, _, _, _, _, _, _, _, _, _, _, _, _, _, xL_e2, rfl⟩, xsa_e2, xga_e2, xgg_e2, xno_e2, xi_e2, xt_e2, xk_e2, xex_e2, xty_e2, xhd_e2, xsu_e2, xve_e2, xsf_e2, xop, xns, xtop, ⟨_, _, _, _, _, _, _, _, _, _, _, _, _, _, _, _, _, _, _, _, _, xf_e2, (fun env => by rfl), xcd_e2, ⟨_, _, _, _, _, _, xco_e2, xvs_e2, xfl_e2⟩, _, _, _, xcc_e2⟩⟩⟩, PySem.W.mg_of X G g_NoCopy⟩
  have x_BadSpans : ErrF l.prog K mg "BadSpans" cBadSpans := ⟨⟨f_e3, "BadSpans.__init__", ⟨⟨_, _, _, _, _, _, _, _, _, _, _, _, _, _, _, xL_e3, rfl⟩, xsa_e3, xga_e3, xgg_e3, xno_e3, xi_e3, xt_e3, xk_e3, xex_e3, xty_e3, xhd_e3, xsu_e3, xve_e3, xsf_e3, xop, xns, xtop, ⟨_, _, _, _, _, _, _, _, _, _, _, _, _, _, _, _, _, _, _, _, _, xf_e3, (fun env => by rfl), xcd_e3, ⟨_, _, _, _, _, _, xco_e3, xvs_e3, xfl_e3⟩, _, _, _, xcc_e3⟩⟩⟩, PySem.W.mg_of X G g_BadSpans⟩
  have x_BadWord : ErrF l.prog K mg "BadWord" cBadWord := ⟨⟨f_e4, "BadWord.__init__", ⟨⟨_, _, _, _, _, _, _, _, _, _, _, _, _, _, _, xL_e4, rfl⟩, xsa_e4, xga_e4, xgg_e4, xno_e4, xi_e4, xt_e4, xk_e4, xex_e4, xty_e4, xhd_e4, xsu_e4, xve_e4, xsf_e4, xop, xns, xtop, ⟨_, _, _, _, _, _, _, _, _, _, _, _, _, _, _, _, _, _, _, _, _, xf_e4, (fun env => by rfl), xcd_e4, ⟨_, _, _, _, _, _, xco_e4, xvs_e4, xfl_e4⟩, _, _, _, xcc_e4⟩⟩⟩, PySem.W.mg_of X G g_BadWord⟩
  have x_NoAsk : ErrF l.prog K mg "NoAsk" cNoAsk := ⟨⟨f_e5, "NoAsk.__init__", ⟨⟨_, _, _, _, _, _, _, _, _, _, _, _, _, _, _, xL_e5, rfl⟩, xsa_e5, xga_e5, xgg_e5, xno_e5, xi_e5, xt_e5, xk_e5, xex_e5, xty_e5, xhd_e5, xsu_e5, xve_e5, xsf_e5, xop, xns, xtop, ⟨_, _, _, _, _, _, _, _, _, _, _, _, _, _, _, _, _, _, _, _, _, xf_e5, (fun env => by rfl), xcd_e5, ⟨_, _, _, _, _, _, xco_e5, xvs_e5, xfl_e5⟩, _, _, _, xcc_e5⟩⟩⟩, PySem.W.mg_of X G g_NoAsk⟩
  have T : TxK K mg A := ⟨PySem.W.mg_none_of X G z_len, PySem.W.mg_none_of X G z_range, PySem.W.mg_none_of X G z_enumerate, PySem.W.mg_none_of X G z_sum, PySem.W.mg_none_of X G z_tuple, PySem.W.mg_none_of X G z_list, PySem.W.mg_none_of X G z_sorted, PySem.W.mg_none_of X G z_dict, PySem.W.mg_none_of X G z_zip, PySem.W.mg_none_of X G z_any, PySem.W.mg_none_of X G z_all, PySem.W.mg_none_of X G z_set, PySem.W.mg_none_of X G z_max, PySem.W.mg_none_of X G z_min, PySem.W.mg_none_of X G z_int, PySem.W.mg_none_of X G z_abs, PySem.W.mg_none_of X G z_repr, cf_Steps, cf_Contents, cf_Knowledge, cf_Keeper, cf_State, cf_Record⟩
  have T2 : TxE l.prog K mg A := ⟨PySem.W.mg_none_of X G z_int, PySem.W.mg_none_of X G z_bool, PySem.W.mg_none_of X G z_str, PySem.W.mg_none_of X G z_isinstance, ⟨t_SMALL, PySem.W.mg_of X G q_SMALL⟩, ⟨t_DIGITS, PySem.W.mg_of X G q_DIGITS⟩, ⟨t_MOST_SIGNS, PySem.W.mg_of X G q_MOST_SIGNS⟩, ⟨t_MOST_COPIES, PySem.W.mg_of X G q_MOST_COPIES⟩, ⟨t_MOST_PIECE, PySem.W.mg_of X G q_MOST_PIECE⟩, ⟨t_PAIR_forms, PySem.W.mg_of X G q_PAIR_forms⟩, ⟨t_PAIR_spans, PySem.W.mg_of X G q_PAIR_spans⟩, ⟨t_MOST, PySem.W.mg_of X G q_MOST⟩, cf_Spans, PySem.W.mg_of X G g_Spans, (List.forall_mem_cons.mpr ⟨kit_NoneType, (List.forall_mem_cons.mpr ⟨kit_bool, (List.forall_mem_cons.mpr ⟨kit_int, (List.forall_mem_cons.mpr ⟨kit_str, (List.forall_mem_cons.mpr ⟨kit_list, (List.forall_mem_cons.mpr ⟨kit_tuple, (List.forall_mem_cons.mpr ⟨kit_dict, (fun _ h => absurd h List.not_mem_nil)⟩)⟩)⟩)⟩)⟩)⟩)⟩), (fun H a dx fs e => .base (.ins e cls_Spans s1 s2 s3 s4)), kitS, x_NoCopy, x_BadSpans, x_BadWord, x_NoAsk, x_BadCopies, x_BadPiece⟩
  have TC : TxC85 K mg A cKE := ⟨PySem.W.mg_of X G g_BadCopies, PySem.W.mg_of X G g_BadPiece, PySem.W.mg_of X G g_KE, ⟨xga_e0, xgg_e0, xex_e0, xhd_e0⟩, ⟨xga_e1, xgg_e1, xex_e1, xhd_e1⟩, xno_e0, xno_e1, PySem.W.exm_ref xex_e0 xhd_e0 xty_e0 ys_0_0, PySem.W.exm_ref xex_e0 xhd_e0 xty_e0 ys_1_0, PySem.W.exm_ref xex_e1 xhd_e1 xty_e1 ys_1_1⟩
  have F0 := fd_mk (st := s_reached) l0 c0 k0
  have b0 : Binds K (PySem.W.fnOf "reached" "reached" (defArgs s_reached) (defBody s_reached) (defScope s_reached) .none kV0 dc0 pm0 an0 cd0 ct0) ["masks"] [] := .all fun us hl => match us, hl with | [_], _ => rfl
  have F1 := fd_mk (st := s_turned) l1 c1 k1
  have b1 : Binds K (PySem.W.fnOf "turned" "turned" (defArgs s_turned) (defBody s_turned) (defScope s_turned) .none kV1 dc1 pm1 an1 cd1 ct1) ["masks"] [] := .all fun us hl => match us, hl with | [_], _ => rfl
  have F2 := fd_mk (st := s_masks_by) l2 c2 k2
  have b2 : Binds K (PySem.W.fnOf "masks_by" "masks_by" (defArgs s_masks_by) (defBody s_masks_by) (defScope s_masks_by) .none kV2 dc2 pm2 an2 cd2 ct2) ["words"] [] := .all fun us hl => match us, hl with | [_], _ => rfl
  have F3 := fd_mk (st := s_Steps_words_of) l3 c3 k3
  have b3 : Binds K (PySem.W.fnOf "words_of" "Steps.words_of" (defArgs s_Steps_words_of) (defBody s_Steps_words_of) (defScope s_Steps_words_of) .none kV3 dc3 pm3 an3 cd3 ct3) ["self", "words", "masks"] [] := .all fun us hl => match us, hl with | [_, _, _], _ => rfl
  have F4 := fd_mk (st := s_Steps_older_masks) l4 c4 k4
  have b4 : Binds K (PySem.W.fnOf "older_masks" "Steps.older_masks" (defArgs s_Steps_older_masks) (defBody s_Steps_older_masks) (defScope s_Steps_older_masks) .none kV4 dc4 pm4 an4 cd4 ct4) ["self", "meanings", "weak_masks"] [] := .all fun us hl => match us, hl with | [_, _, _], _ => rfl
  have F5 := fd_mk (st := s_Steps_book_of) l5 c5 k5
  have b5 : Binds K (PySem.W.fnOf "book_of" "Steps.book_of" (defArgs s_Steps_book_of) (defBody s_Steps_book_of) (defScope s_Steps_book_of) .none kV5 dc5 pm5 an5 cd5 ct5) ["self", "masks", "many"] [] := .all fun us hl => match us, hl with | [_, _, _], _ => rfl
  have F6 := fd_mk (st := s_Steps_rings_of) l6 c6 k6
  have b6 : Binds K (PySem.W.fnOf "rings_of" "Steps.rings_of" (defArgs s_Steps_rings_of) (defBody s_Steps_rings_of) (defScope s_Steps_rings_of) .none kV6 dc6 pm6 an6 cd6 ct6) ["self", "masks"] [] := .all fun us hl => match us, hl with | [_, _], _ => rfl
  have F7 := fd_mk (st := s_under_pairs) l7 c7 k7
  have b7 : Binds K (PySem.W.fnOf "under_pairs" "under_pairs" (defArgs s_under_pairs) (defBody s_under_pairs) (defScope s_under_pairs) .none kV7 dc7 pm7 an7 cd7 ct7) ["copies"] [] := .all fun us hl => match us, hl with | [_], _ => rfl
  have F8 := fd_mk (st := s_Steps_init) l8 c8 k8
  have b8 : Binds K (PySem.W.fnOf "__init__" "Steps.__init__" (defArgs s_Steps_init) (defBody s_Steps_init) (defScope s_Steps_init) .none kV8 dc8 pm8 an8 cd8 ct8) ["self", "copies", "records"] [] := .all fun us hl => match us, hl with | [_, _, _], _ => rfl
  have F9 := fd_mk (st := s_Contents_told_by_groups) l9 c9 k9
  have b9 : Binds K (PySem.W.fnOf "told_by_groups" "Contents.told_by_groups" (defArgs s_Contents_told_by_groups) (defBody s_Contents_told_by_groups) (defScope s_Contents_told_by_groups) .none kV9 dc9 pm9 an9 cd9 ct9) ["self", "pairs"] [] := .all fun us hl => match us, hl with | [_, _], _ => rfl
  have F10 := fd_mk (st := s_Contents_init) l10 c10 k10
  have b10 : Binds K (PySem.W.fnOf "__init__" "Contents.__init__" (defArgs s_Contents_init) (defBody s_Contents_init) (defScope s_Contents_init) .none kV10 dc10 pm10 an10 cd10 ct10) ["self", "records", "groups", "piece"] [] := .all fun us hl => match us, hl with | [_, _, _, _], _ => rfl
  have F11 := fd_mk (st := s_Knowledge_is_sound) l11 c11 k11
  have b11 : Binds K (PySem.W.fnOf "is_sound" "Knowledge.is_sound" (defArgs s_Knowledge_is_sound) (defBody s_Knowledge_is_sound) (defScope s_Knowledge_is_sound) .none kV11 dc11 pm11 an11 cd11 ct11) ["self"] [] := .all fun us hl => match us, hl with | [_], _ => rfl
  have F12 := fd_mk (st := s_Knowledge_init) l12 c12 k12
  have b12 : Binds K (PySem.W.fnOf "__init__" "Knowledge.__init__" (defArgs s_Knowledge_init) (defBody s_Knowledge_init) (defScope s_Knowledge_init) .none kV12 dc12 pm12 an12 cd12 ct12) ["self", "copies", "piece", "records"] [] := .all fun us hl => match us, hl with | [_, _, _, _], _ => rfl
  have F13 := fd_mk (st := s_State_init) l13 c13 k13
  have b13 : Binds K (PySem.W.fnOf "__init__" "State.__init__" (defArgs s_State_init) (defBody s_State_init) (defScope s_State_init) .none kV13 dc13 pm13 an13 cd13 ct13) ["self", "copies", "piece"] [] := .all fun us hl => match us, hl with | [_, _, _], _ => rfl
  have F14 := fd_mk (st := s_knowledge_of) l14 c14 k14
  have b14 : Binds K (PySem.W.fnOf "knowledge_of" "knowledge_of" (defArgs s_knowledge_of) (defBody s_knowledge_of) (defScope s_knowledge_of) .none kV14 dc14 pm14 an14 cd14 ct14) ["state"] [] := .all fun us hl => match us, hl with | [_], _ => rfl
  have F15 := fd_mk (st := s_laid) l15 c15 k15
  have b15 : Binds K (PySem.W.fnOf "laid" "laid" (defArgs s_laid) (defBody s_laid) (defScope s_laid) .none kV15 dc15 pm15 an15 cd15 ct15) ["state"] [] := .all fun us hl => match us, hl with | [_], _ => rfl
  have F16 := fd_mk (st := s_is_integer) l16 c16 k16
  have b16 : Binds K (PySem.W.fnOf "is_integer" "is_integer" (defArgs s_is_integer) (defBody s_is_integer) (defScope s_is_integer) .none kV16 dc16 pm16 an16 cd16 ct16) ["value"] [] := .all fun us hl => match us, hl with | [_], _ => rfl
  have F17 := fd_mk (st := s_is_within) l17 c17 k17
  have b17 : Binds K (PySem.W.fnOf "is_within" "is_within" (defArgs s_is_within) (defBody s_is_within) (defScope s_is_within) .none kV17 dc17 pm17 an17 cd17 ct17) ["value", "least", "greatest"] [] := .all fun us hl => match us, hl with | [_, _, _], _ => rfl
  have F18 := fd_mk (st := s_is_made_of) l18 c18 k18
  have b18 : Binds K (PySem.W.fnOf "is_made_of" "is_made_of" (defArgs s_is_made_of) (defBody s_is_made_of) (defScope s_is_made_of) .none kV18 dc18 pm18 an18 cd18 ct18) ["value", "signs"] [] := .all fun us hl => match us, hl with | [_, _], _ => rfl
  have F19 := fd_mk (st := s_is_copy_name) l19 c19 k19
  have b19 : Binds K (PySem.W.fnOf "is_copy_name" "is_copy_name" (defArgs s_is_copy_name) (defBody s_is_copy_name) (defScope s_is_copy_name) .none kV19 dc19 pm19 an19 cd19 ct19) ["value"] [] := .all fun us hl => match us, hl with | [_], _ => rfl
  have F20 := fd_mk (st := s_is_piece) l20 c20 k20
  have b20 : Binds K (PySem.W.fnOf "is_piece" "is_piece" (defArgs s_is_piece) (defBody s_is_piece) (defScope s_is_piece) .none kV20 dc20 pm20 an20 cd20 ct20) ["value"] [] := .all fun us hl => match us, hl with | [_], _ => rfl
  have F21 := fd_mk (st := s_is_ring_free) l21 c21 k21
  have b21 : Binds K (PySem.W.fnOf "is_ring_free" "is_ring_free" (defArgs s_is_ring_free) (defBody s_is_ring_free) (defScope s_is_ring_free) .none kV21 dc21 pm21 an21 cd21 ct21) ["followed"] [] := .all fun us hl => match us, hl with | [_], _ => rfl
  have F22 := fd_mk (st := s_are_copies) l22 c22 k22
  have b22 : Binds K (PySem.W.fnOf "are_copies" "are_copies" (defArgs s_are_copies) (defBody s_are_copies) (defScope s_are_copies) .none kV22 dc22 pm22 an22 cd22 ct22) ["value"] [] := .all fun us hl => match us, hl with | [_], _ => rfl
  have F23 : FunD K "__init__" "Keeper.__init__" (defArgs s_Keeper_init) (defBody s_Keeper_init) (defScope s_Keeper_init) [] [(("piece" : Str), V.int 4)] f23 _ := ⟨⟨_, _, _, _, _, _, _, _, _, _, rfl, l23, c23, .inl ⟨rfl, rfl⟩, .inr ⟨D23, rfl, (List.forall_mem_cons.mpr ⟨⟨_, kw23, ⟨tk23, rfl⟩⟩, (fun _ h => absurd h List.not_mem_nil)⟩)⟩⟩, k23⟩
  obtain ⟨ds23, rv23, b23⟩ := FunD.binds0 (ps := ["self", "copies", "piece"]) F23 2 (by simp) rfl (fun D doc pm an cdv ct us ks h1 h2 => match us, h1, ks, h2 with | [_, _], _, [_], _ => ⟨_, _, _, _, _, _, rfl, rfl, rfl⟩)
  obtain ⟨mvp, kbp⟩ := FunD.kbinds0 (ps := ["self", "copies", "piece"]) F23 2 ["piece"] [] (fun us mv ws => us ++ ws) (by simp) (fun _ h => absurd h List.not_mem_nil) (fun r1 r2 r3 => r1.append r3) (fun D doc pm an cdv ct us mv ws h1 h2 h3 => match us, h1, mv, h2, ws, h3 with | [_, _], _, [], _, [_], _ => rfl)
  obtain ⟨mvc, kbc⟩ := FunD.kbinds0 (ps := ["self", "copies", "piece"]) F23 1 ["piece", "copies"] [] (fun us mv ws => us ++ ws.reverse) (by simp) (fun _ h => absurd h List.not_mem_nil) (fun r1 r2 r3 => r1.append r3.reverse) (fun D doc pm an cdv ct us mv ws h1 h2 h3 => match us, h1, mv, h2, ws, h3 with | [_], _, [], _, [_, _], _ => rfl)
  have F24 := fd_mk (st := s_Keeper_copies) l24 c24 k24
  have b24 : Binds K (PySem.W.fnOf "copies" "Keeper.copies" (defArgs s_Keeper_copies) (defBody s_Keeper_copies) (defScope s_Keeper_copies) .none kV24 dc24 pm24 an24 cd24 ct24) ["self"] [] := .all fun us hl => match us, hl with | [_], _ => rfl
  have F25 := fd_mk (st := s_Keeper_piece) l25 c25 k25
  have b25 : Binds K (PySem.W.fnOf "piece" "Keeper.piece" (defArgs s_Keeper_piece) (defBody s_Keeper_piece) (defScope s_Keeper_piece) .none kV25 dc25 pm25 an25 cd25 ct25) ["self"] [] := .all fun us hl => match us, hl with | [_], _ => rfl
  have F26 := fd_mk (st := s_Keeper_now) l26 c26 k26
  have b26 : Binds K (PySem.W.fnOf "now" "Keeper.now" (defArgs s_Keeper_now) (defBody s_Keeper_now) (defScope s_Keeper_now) .none kV26 dc26 pm26 an26 cd26 ct26) ["self"] [] := .all fun us hl => match us, hl with | [_], _ => rfl
  have F27 := fd_mk (st := s_Keeper_open_asks) l27 c27 k27
  have b27 : Binds K (PySem.W.fnOf "open_asks" "Keeper.open_asks" (defArgs s_Keeper_open_asks) (defBody s_Keeper_open_asks) (defScope s_Keeper_open_asks) .none kV27 dc27 pm27 an27 cd27 ct27) ["self"] [] := .all fun us hl => match us, hl with | [_], _ => rfl
  have F28 := fd_mk (st := s_Keeper_answers) l28 c28 k28
  have b28 : Binds K (PySem.W.fnOf "answers" "Keeper.answers" (defArgs s_Keeper_answers) (defBody s_Keeper_answers) (defScope s_Keeper_answers) .none kV28 dc28 pm28 an28 cd28 ct28) ["self"] [] := .all fun us hl => match us, hl with | [_], _ => rfl
  have F29 := fd_mk (st := s_Keeper_groups) l29 c29 k29
  have b29 : Binds K (PySem.W.fnOf "groups" "Keeper.groups" (defArgs s_Keeper_groups) (defBody s_Keeper_groups) (defScope s_Keeper_groups) .none kV29 dc29 pm29 an29 cd29 ct29) ["self"] [] := .all fun us hl => match us, hl with | [_], _ => rfl
  have F30 := fd_mk (st := s_law_any) l30 c30 k30
  have b30 : Binds K (PySem.W.fnOf "_law_any" "_law_any" (defArgs s_law_any) (defBody s_law_any) (defScope s_law_any) .none kV30 dc30 pm30 an30 cd30 ct30) ["_law_pot_here", "_law_items"] [] := .all fun us hl => match us, hl with | [_, _], _ => rfl
  have F31 := fd_mk (st := s_law_words) l31 c31 k31
  have b31 : Binds K (PySem.W.fnOf "_law_words" "_law_words" (defArgs s_law_words) (defBody s_law_words) (defScope s_law_words) .none kV31 dc31 pm31 an31 cd31 ct31) ["_law_pot_here", "_law_many"] [] := .all fun us hl => match us, hl with | [_, _], _ => rfl
  have F32 := fd_mk (st := s_law_copies) l32 c32 k32
  have b32 : Binds K (PySem.W.fnOf "_law_copies" "_law_copies" (defArgs s_law_copies) (defBody s_law_copies) (defScope s_law_copies) .none kV32 dc32 pm32 an32 cd32 ct32) ["_law_pot_here", "_law_most"] [] := .all fun us hl => match us, hl with | [_, _], _ => rfl
  have F33 := fd_mk (st := s_law_spoilt) l33 c33 k33
  have b33 : Binds K (PySem.W.fnOf "_law_spoilt" "_law_spoilt" (defArgs s_law_spoilt) (defBody s_law_spoilt) (defScope s_law_spoilt) .none kV33 dc33 pm33 an33 cd33 ct33) ["_law_pot_here", "_law_rows"] [] := .all fun us hl => match us, hl with | [_, _], _ => rfl
  have F34 := fd_mk (st := s_law_is_name) l34 c34 k34
  have b34 : Binds K (PySem.W.fnOf "_law_is_name" "_law_is_name" (defArgs s_law_is_name) (defBody s_law_is_name) (defScope s_law_is_name) .none kV34 dc34 pm34 an34 cd34 ct34) ["_law_thing"] [] := .all fun us hl => match us, hl with | [_], _ => rfl
  have F35 := fd_mk (st := s_law_are_pairs) l35 c35 k35
  have b35 : Binds K (PySem.W.fnOf "_law_are_pairs" "_law_are_pairs" (defArgs s_law_are_pairs) (defBody s_law_are_pairs) (defScope s_law_are_pairs) .none kV35 dc35 pm35 an35 cd35 ct35) ["_law_thing"] [] := .all fun us hl => match us, hl with | [_], _ => rfl
  have F36 := fd_mk (st := s_law_are_copies) l36 c36 k36
  have b36 : Binds K (PySem.W.fnOf "_law_are_copies" "_law_are_copies" (defArgs s_law_are_copies) (defBody s_law_are_copies) (defScope s_law_are_copies) .none kV36 dc36 pm36 an36 cd36 ct36) ["_law_thing"] [] := .all fun us hl => match us, hl with | [_], _ => rfl
  have F37 := fd_mk (st := s_law_caught) l37 c37 k37
  have b37 : Binds K (PySem.W.fnOf "_law_caught" "_law_caught" (defArgs s_law_caught) (defBody s_law_caught) (defScope s_law_caught) .none kV37 dc37 pm37 an37 cd37 ct37) ["_law_call"] [] := .all fun us hl => match us, hl with | [_], _ => rfl
  have F38 : FunC K "_law_right" "_law_right" (defArgs s_law_right) (defBody s_law_right) (defScope s_law_right) kT0 f38 _ := ⟨⟨_, _, _, _, _, _, _, _, rfl, l38, c38⟩⟩
  have b38 : Binds K (PySem.W.fnOf "_law_right" "_law_right" (defArgs s_law_right) (defBody s_law_right) (defScope s_law_right) .none kV38 dc38 pm38 an38 (.ref kT0) ct38) ["_law_pot_here"] [] := .all fun us hl => match us, hl with | [_], _ => rfl
  have F39 := fd_mk (st := s_law) l39 c39 k39
  have D_law_caught : CatD K mg "_law_caught" "_law_call" (cTb85 A) := ok_law_caught TC (PySem.W.mg_of X G a37) k37 l37 c37 b37
  have FS0 := fd_mk (st := S1.s_law_pot) lS0 cS0 kS0
  have bS0 : Binds K (PySem.W.fnOf "_law_pot" "_law_pot" (defArgs S1.s_law_pot) (defBody S1.s_law_pot) (defScope S1.s_law_pot) .none kVS0 dcS0 pmS0 anS0 cdS0 ctS0) ["_law_script", "_law_k"] [] := .all fun us hl => match us, hl with | [_, _], _ => rfl
  have FS1 := fd_mk (st := S1.s_law_draw) lS1 cS1 kS1
  have bS1 : Binds K (PySem.W.fnOf "_law_draw" "_law_draw" (defArgs S1.s_law_draw) (defBody S1.s_law_draw) (defScope S1.s_law_draw) .none kVS1 dcS1 pmS1 anS1 cdS1 ctS1) ["_law_pot_here", "_law_many"] [] := .all fun us hl => match us, hl with | [_, _], _ => rfl
  have hta := tabs _ _ _ _ rc38 (S1.tabIn_mk a38 l38 rfl lc38 hv38)
  refine ⟨PySem.W.fnOf "law" "law" (defArgs s_law) (defBody s_law) (defScope s_law) .none kV39 dc39 pm39 an39 cd39 ct39, [(kT0, T0)], spM (S_law85 K T0), ?_, fun s v => .of_eq rfl, fun H a ns hn hH hS => wish_law85 nt38 hn (hH (kT0, T0) List.mem_cons_self) hS, fun base _ _ TB => ?_⟩
  · exact List.forall_mem_cons.mpr ⟨⟨hta.2, nt38, hta.1⟩, fun _ h => absurd h List.not_mem_nil⟩
  have D_law_pot : CalF l.prog w K mg base CX0 1 "_law_pot" ["_law_script", "_law_k"] (spM (S_pot K)) := ⟨⟨fS0, _, (S1.ok_law_pot T FS0).weak (fun _ _ _ _ h => pot_weak h), PySem.W.mg_of X G aS0, kS0, bS0⟩⟩
  have D_law_draw : CalF l.prog w K mg base CX0 1 "_law_draw" ["_law_pot_here", "_law_many"] (spM S_draw) := ⟨⟨fS1, _, (S1.ok_law_draw T FS1).weak (fun _ _ _ _ h => draw_weak h), PySem.W.mg_of X G aS1, kS1, bS1⟩⟩
  have D_reached : CalF l.prog w K mg base CX0 1 "reached" ["masks"] (spP fun Ps P => ∃ ms : List Int, Ps = [rLs K (ms.map rInt)] ∧ ms.length ≤ 1000 ∧ P = rLs K ((reachedF ms).map rInt)) := ⟨⟨f0, _, ok_reached (A := A) T T2 F0, PySem.W.mg_of X G a0, k0, b0⟩⟩
  have D_turned : CalF l.prog w K mg base CX0 1 "turned" ["masks"] (spP fun Ps P => Ps = [rLs K []] ∧ P = rLs K []) := ⟨⟨f1, _, ok_turned (A := A) T T2 F1, PySem.W.mg_of X G a1, k1, b1⟩⟩
  have D_masks_by : CalF l.prog w K mg base CX0 1 "masks_by" ["words"] (spP fun Ps P => Ps = [rLs K []] ∧ P = rLs K []) := ⟨⟨f2, _, ok_masks_by (A := A) T T2 F2, PySem.W.mg_of X G a2, k2, b2⟩⟩
  have D_Steps_words_of : CalM l.prog w K mg base CX0 cSteps 1 "words_of" ["self", "words", "masks"] (spM fun Ps r Φ => ∃ a : Addr, Ps = [rAt a, rLs K [], rLs K []] ∧ r = [] ∧ Φ = fun P r' => P = rLs K [] ∧ r' = []) := ⟨⟨f3, _, ok_Steps_words_of (A := A) T T2 F3, cls_Steps, ⟨a3, i3, k3⟩, b3⟩⟩
  have D_Steps_older_masks : CalM l.prog w K mg base CX0 cSteps 2 "older_masks" ["self", "meanings", "weak_masks"] (spM fun Ps r Φ => ∃ a : Addr, Ps = [rAt a, rLs K [], rLs K []] ∧ r = [] ∧ Φ = fun P r' => P = rLs K [] ∧ r' = []) := ⟨⟨f4, _, ok_Steps_older_masks (A := A) T T2 D_turned F4, cls_Steps, ⟨a4, i4, k4⟩, b4⟩⟩
  have D_Steps_book_of : CalM l.prog w K mg base CX0 cSteps 1 "book_of" ["self", "masks", "many"] (spM (S_book A K)) := ⟨⟨f5, _, ok_Steps_book_of (A := A) T T2 F5, cls_Steps, ⟨a5, i5, k5⟩, b5⟩⟩
  have D_Steps_rings_of : CalM l.prog w K mg base CX0 cSteps 2 "rings_of" ["self", "masks"] (spM (S_rings A K)) := ⟨⟨f6, _, ok_Steps_rings_of (A := A) T T2 D_turned F6, cls_Steps, ⟨a6, i6, k6⟩, b6⟩⟩
  have D_under_pairs : CalF l.prog w K mg base CX0 1 "under_pairs" ["copies"] (spP fun Ps P => ∃ cs : Cs, Ps = [rTq (pairsP K (csP cs))] ∧ CsOk cs ∧ P = rTop) := ⟨⟨f7, _, ok_under_pairs (A := A) T T2 F7, PySem.W.mg_of X G a7, k7, b7⟩⟩
  have D_Steps : CalI l.prog w K mg base CX0 cSteps 4 "Steps" ["self", "copies", "records"] (spM (S_Steps_init A K)) := ⟨⟨f8, _, ok_Steps_init (A := A) T T2 D_under_pairs D_masks_by D_reached D_Steps_words_of D_Steps_older_masks D_Steps_book_of D_Steps_rings_of F8, ⟨mk_Steps, a8, i8, kc_Steps⟩, PySem.W.mg_of X G g_Steps, b8⟩⟩
  have D_Contents_told_by_groups : CalM l.prog w K mg base CX0 cContents 1 "told_by_groups" ["self", "pairs"] (spM (S_told A K)) := ⟨⟨f9, _, ok_Contents_told_by_groups (A := A) T T2 F9, cls_Contents, ⟨a9, i9, k9⟩, b9⟩⟩
  have D_Contents : CalI l.prog w K mg base CX0 cContents 2 "Contents" ["self", "records", "groups", "piece"] (spM (S_Cont_init A K)) := ⟨⟨f10, _, ok_Contents_init (A := A) T T2 D_Contents_told_by_groups F10, ⟨mk_Contents, a10, i10, kc_Contents⟩, PySem.W.mg_of X G g_Contents, b10⟩⟩
  have D_Knowledge_is_sound : CalM l.prog w K mg base CX0 cKnowledge 1 "is_sound" ["self"] (spM (S_sound A K)) := ⟨⟨f11, _, ok_Knowledge_is_sound (A := A) T T2 F11, cls_Knowledge, ⟨a11, i11, k11⟩, b11⟩⟩
  have D_Knowledge : CalI l.prog w K mg base CX0 cKnowledge 6 "Knowledge" ["self", "copies", "piece", "records"] (spM (S_Know_init A K)) := ⟨⟨f12, _, ok_Knowledge_init (A := A) T T2 D_Steps D_Contents D_Knowledge_is_sound F12, ⟨mk_Knowledge, a12, i12, kc_Knowledge⟩, PySem.W.mg_of X G g_Knowledge, b12⟩⟩
  have D_State : CalI l.prog w K mg base CX0 cState 1 "State" ["self", "copies", "piece"] (spM (S_State_init A)) := ⟨⟨f13, _, ok_State_init (A := A) T T2 F13, ⟨mk_State, a13, i13, kc_State⟩, PySem.W.mg_of X G g_State, b13⟩⟩
  have D_knowledge_of : CalF l.prog w K mg base CX0 8 "knowledge_of" ["state"] (spM (S_kof A K)) := ⟨⟨f14, _, ok_knowledge_of (A := A) T T2 D_Knowledge F14, PySem.W.mg_of X G a14, k14, b14⟩⟩
  have D_laid : CalF l.prog w K mg base CX0 9 "laid" ["state"] (spM (S_laid A K)) := ⟨⟨f15, _, ok_laid (A := A) T T2 D_knowledge_of F15, PySem.W.mg_of X G a15, k15, b15⟩⟩
  have D_is_integer : CalF l.prog w K mg base CX0 1 "is_integer" ["value"] (spP fun Ps P => ∃ d, Ps = [rDq K d] ∧ P = rBl (intB (fun _ => true) d)) := ⟨⟨f16, _, ok_is_integer (A := A) T T2 F16, PySem.W.mg_of X G a16, k16, b16⟩⟩
  have D_is_within : CalF l.prog w K mg base CX0 2 "is_within" ["value", "least", "greatest"] (spP fun Ps P => ∃ d a b, Ps = [rDq K d, rInt a, rInt b] ∧ P = rBl (intB (fun i => decide (a ≤ i) && decide (i ≤ b)) d)) := ⟨⟨f17, _, ok_is_within (A := A) T T2 D_is_integer F17, PySem.W.mg_of X G a17, k17, b17⟩⟩
  have D_is_made_of : CalF l.prog w K mg base CX0 1 "is_made_of" ["value", "signs"] (spP fun Ps P => ∃ d signs, Ps = [rDq K d, rStr signs] ∧ P = rBl (madeB signs d) ∧ ∀ z, d = .str z → z.length ≤ sizeLine) := ⟨⟨f18, _, ok_is_made_of (A := A) T T2 F18, PySem.W.mg_of X G a18, k18, b18⟩⟩
  have D_is_copy_name : CalF l.prog w K mg base CX0 2 "is_copy_name" ["value"] (spP fun Ps P => ∃ d, Ps = [rDq K d] ∧ P = rBl (madeB "abcdefghijklmnopqrstuvwxyz" d) ∧ ∀ z, d = .str z → z.length ≤ sizeLine) := ⟨⟨f19, _, ok_is_copy_name (A := A) T T2 D_is_made_of F19, PySem.W.mg_of X G a19, k19, b19⟩⟩
  have D_is_piece : CalF l.prog w K mg base CX0 3 "is_piece" ["value"] (spP fun Ps P => ∃ d, Ps = [rDq K d] ∧ P = rBl (intB (fun i => decide (1 ≤ i) && decide (i ≤ 64)) d)) := ⟨⟨f20, _, ok_is_piece (A := A) T T2 D_is_within F20, PySem.W.mg_of X G a20, k20, b20⟩⟩
  have D_is_ring_free : CalF l.prog w K mg base CX0 1 "is_ring_free" ["followed"] (spP fun Ps P => ∃ cs, Ps = [rDk (csP cs)] ∧ cs.length ≤ 6 ∧ (cs.map (·.1)).Nodup ∧ folB cs = true ∧ P = rBl (freeB cs)) := ⟨⟨f21, _, ok_is_ring_free (A := A) T T2 F21, PySem.W.mg_of X G a21, k21, b21⟩⟩
  have D_are_copies : CalF l.prog w K mg base CX0 3 "are_copies" ["value"] (spP fun Ps P => ∃ d, Ps = [rVd K d] ∧ ShV d ∧ P = rBl (cpB d)) := ⟨⟨f22, _, ok_are_copies (A := A) T T2 D_is_copy_name D_is_ring_free F22, PySem.W.mg_of X G a22, k22, b22⟩⟩
  have D_Keeper : CalJ l.prog w K mg base (L2.CX l.prog w) cKeeper 10 "Keeper" ["self", "copies", "piece"] [.int 4] (spR (S_Keep85 A K)) := ⟨⟨f23, _, _, ok_Keeper_init (A := A) T T2 D_are_copies D_is_piece D_laid D_State F23, ⟨mk_Keeper, a23, i23, kc_Keeper⟩, PySem.W.mg_of X G g_Keeper, b23, rv23⟩⟩
  have D_Keeper_kp : CalKM l.prog w K mg base (L2.CX l.prog w) cKeeper 10 "Keeper" ["self", "copies", "piece"] 1 ["piece"] (fun vs zs => vs ++ zs) (spR (S_Keep85 A K)) := ⟨⟨f23, _, _, ok_Keeper_init (A := A) T T2 D_are_copies D_is_piece D_laid D_State F23, ⟨mk_Keeper, a23, i23, kc_Keeper⟩, PySem.W.mg_of X G g_Keeper, kbp⟩⟩
  have D_Keeper_kc : CalKM l.prog w K mg base (L2.CX l.prog w) cKeeper 10 "Keeper" ["self", "copies", "piece"] 0 ["piece", "copies"] (fun vs zs => vs ++ zs.reverse) (spR (S_Keep85 A K)) := ⟨⟨f23, _, _, ok_Keeper_init (A := A) T T2 D_are_copies D_is_piece D_laid D_State F23, ⟨mk_Keeper, a23, i23, kc_Keeper⟩, PySem.W.mg_of X G g_Keeper, kbc⟩⟩
  have D_Keeper_copies : CalP l.prog w K mg base CX0 cKeeper 1 "copies" (spM (S_Kget A K fun cs Pp t n k1 P => P = rTq (pairsP K (csP cs)))) := ⟨⟨f24, _, p24, ok_Keeper_copies (A := A) T T2 F24, cls_Keeper, ⟨a24, pg24, pt24, ⟨_, pr24⟩⟩, b24⟩⟩
  have D_Keeper_piece : CalP l.prog w K mg base CX0 cKeeper 1 "piece" (spM (S_Kget A K fun cs Pp t n k1 P => P = Pp)) := ⟨⟨f25, _, p25, ok_Keeper_piece (A := A) T T2 F25, cls_Keeper, ⟨a25, pg25, pt25, ⟨_, pr25⟩⟩, b25⟩⟩
  have D_Keeper_now : CalP l.prog w K mg base CX0 cKeeper 1 "now" (spM (S_Kget A K fun cs Pp t n k1 P => P = rInt t)) := ⟨⟨f26, _, p26, ok_Keeper_now (A := A) T T2 F26, cls_Keeper, ⟨a26, pg26, pt26, ⟨_, pr26⟩⟩, b26⟩⟩
  have D_Keeper_open_asks : CalP l.prog w K mg base CX0 cKeeper 1 "open_asks" (spM (S_Kget A K fun cs Pp t n k1 P => ∃ op : List Int, k1.map (·.1) = op.map Sum.inl ∧ op.Pairwise (· ≤ ·) ∧ P = rTs K (op.map rInt))) := ⟨⟨f27, _, p27, ok_Keeper_open_asks (A := A) T T2 F27, cls_Keeper, ⟨a27, pg27, pt27, ⟨_, pr27⟩⟩, b27⟩⟩
  have D_Keeper_answers : CalP l.prog w K mg base CX0 cKeeper 1 "answers" (spM (S_Kget A K fun cs Pp t n k1 P => P = rTs K [])) := ⟨⟨f28, _, p28, ok_Keeper_answers (A := A) T T2 F28, cls_Keeper, ⟨a28, pg28, pt28, ⟨_, pr28⟩⟩, b28⟩⟩
  have D_Keeper_groups : CalM l.prog w K mg base CX0 cKeeper 10 "groups" ["self"] (spM (S_Kget A K fun cs Pp t n k1 P => P = rTs K [])) := ⟨⟨f29, _, ok_Keeper_groups (A := A) T T2 D_knowledge_of F29, cls_Keeper, ⟨a29, i29, k29⟩, b29⟩⟩
  have D_law_any : CalF l.prog w K mg base CX0 2 "_law_any" ["_law_pot_here", "_law_items"] (spM (S_any K)) := ⟨⟨f30, _, ok_law_any (A := A) T T2 D_law_draw F30, PySem.W.mg_of X G a30, k30, b30⟩⟩
  have D_law_words : CalF l.prog w K mg base CX0 3 "_law_words" ["_law_pot_here", "_law_many"] (spM S_words) := ⟨⟨f31, _, ok_law_words (A := A) T T2 D_law_draw D_law_any F31, PySem.W.mg_of X G a31, k31, b31⟩⟩
  have D_law_copies : CalF l.prog w K mg base CX0 4 "_law_copies" ["_law_pot_here", "_law_most"] (spM (S_copies7 K)) := ⟨⟨f32, _, ok_law_copies (A := A) T T2 D_law_words D_law_draw F32, PySem.W.mg_of X G a32, k32, b32⟩⟩
  have D_law_spoilt : CalF l.prog w K mg base CX0 4 "_law_spoilt" ["_law_pot_here", "_law_rows"] (spM (S_spoilt K)) := ⟨⟨f33, _, ok_law_spoilt (A := A) T T2 D_law_draw D_law_any F33, PySem.W.mg_of X G a33, k33, b33⟩⟩
  have D_law_is_name : CalF l.prog w K mg base CX0 1 "_law_is_name" ["_law_thing"] (spP fun Ps P => ∃ d, Ps = [rDq K d] ∧ P = rBl (nmB d) ∧ Sh d) := ⟨⟨f34, _, ok_law_is_name (A := A) T T2 F34, PySem.W.mg_of X G a34, k34, b34⟩⟩
  have D_law_are_pairs : CalF l.prog w K mg base CX0 2 "_law_are_pairs" ["_law_thing"] (spP fun Ps P => ∃ d, Ps = [rVd K d] ∧ ShV d ∧ P = rBl (prsD d)) := ⟨⟨f35, _, ok_law_are_pairs (A := A) T T2 D_law_is_name F35, PySem.W.mg_of X G a35, k35, b35⟩⟩
  have D_law_are_copies : CalF l.prog w K mg base CX0 3 "_law_are_copies" ["_law_thing"] (spP fun Ps P => ∃ d, Ps = [rVd K d] ∧ ShV d ∧ P = rBl (cpB d)) := ⟨⟨f36, _, ok_law_are_copies (A := A) T T2 D_law_are_pairs F36, PySem.W.mg_of X G a36, k36, b36⟩⟩
  have D_law_right : CalG l.prog w K mg base CX0 15 "_law_right" ["_law_pot_here"] (spM (S_right85 A T0)) := ⟨⟨f38, _, ok_law_right (A := A) T T2 D_law_copies D_law_spoilt D_law_draw D_law_any D_law_caught D_Keeper_kp D_Keeper_kc D_law_are_copies D_Keeper D_Keeper_copies D_Keeper_piece D_Keeper_now D_Keeper_answers D_Keeper_open_asks D_Keeper_groups (TB _ List.mem_cons_self) F38, PySem.W.mg_of X G a38, k38, b38⟩⟩
  exact ok_law (A := A) T T2 D_law_pot D_law_right F39
theorem walk {l : PySem.W.OpenLaw} {q : Program} {loose : List Str} {XP : (Str → Option Value) → Heap → Prop} {YP : World → Heap → Prop} {d : DefRec} {K : Params → PySem.W.Frag} (hn : l.most = some 63) (hdf : d.params.defaults = []) (hY : ∀ (w : World) (h : Heap), YP w h → (K w.params).In h)
    (F : ∀ (w : World) (mg : Str → Option Value) (fa : Addr) (h : Heap), (∀ (y : Str) (c P : Addr) (e : DefRec), (recsOf q).find? (fun e => e.name == y) = some e → PySem.W.tabIn (K w.params) y = some (c, P) → PySem.W.CodeHd h c P ∧ h.get? P = some { cls := .none, data := .fields #[] }) → (K w.params).In h → h.Ns mainGlobals mg → mg d.name = some (.ref fa) → S1.AtTG l w (K w.params) 16 63 "_law_script" mg fa h) :
    PySem.W.WalkO q loose XP YP l.row.toRowW d [] (fun f vs => PySem.call f vs) :=
  S1.walkTH (n := 63) (k := 16) (x := "_law_script") hn (by decide) hdf ⟨rfl, by decide, by decide⟩ hY F
section
open PySem PySem.W PySem.Calls PyProof.Rows
noncomputable section
abbrev Rw : OpenRow := OpenLaw.row PySem.Challenge.rw_oneedition_k85_copies_of_any_value
section
set_option hygiene false in
local macro_rules | `(tactic| o_headL $H) => `(tactic| exact h $H)
set_option maxHeartbeats 0 in
theorem hd0 (h : ∀ H : Hook, Rw.Holds) : Rw.Holds := by
  k_headL
end
/-- what the walk sees of the top -/
def qv : Program := view Rw.prog [105, 106]
/-- the other names that the top binds -/
def names0 : List Str := ["_wall", "__name__", "KeeperError", "BadSpans", "BadCopies", "BadPiece", "BadWord", "NoCopy", "NoAsk", "NoMark", "NoAnswer", "NoWord", "Contradiction", "first_told", "piece_size", "Contents"]
def names1 : List Str := ["SMALL", "DIGITS", "MOST_SIGNS", "MOST_COPIES", "MOST_PIECE", "PAIR_forms", "is_integer", "is_within", "is_made_of", "is_word", "is_copy_name", "is_ring_free", "are_copies", "is_piece", "Record", "State"]
def names2 : List Str := ["all_of", "equal_states", "under_pairs", "known_copy", "known_answer", "TWO", "reached", "turned", "masks_by", "places_in", "Steps", "OLDER_knowledge", "SAME_knowledge", "NEWER_knowledge", "Knowledge", "knowledge_of"]
def names3 : List Str := ["has_world", "check_world", "PAIR_spans", "MOST", "is_span", "united", "shared", "rest_of", "Spans", "stepped", "ask_of", "open_ask", "answered", "changed_of", "UNSEEN", "with_unseen"]
def names4 : List Str := ["at_present", "has_now", "contents_at", "length_at", "rows_of", "known_at", "byte_at", "OLDER_worlds", "SAME_worlds", "NEWER_worlds", "WORDS", "reached_from", "ranks_by", "pairs_for", "world_of", "is_base_step"]
def names5 : List Str := ["laid", "Keeper", "_law_pot", "_law_draw", "_law_any", "_law_words", "_law_copies", "_law_is_name", "_law_are_pairs", "_law_are_copies", "_law_spoilt", "_law_caught"]
def names : List Str := names0 ++ names1 ++ names2 ++ names3 ++ names4 ++ names5
def asK0 : List Addr := [2, 3, 15, 17, 18, 20, 21, 22, 29, 30, 31, 32, 35, 38, 43, 44, 46, 47, 49, 50, 51, 52, 53, 56, 59, 64, 65, 67, 68, 70, 71, 72, 73, 74, 77, 80, 85, 86, 88, 89]
def asK1 : List Addr := [91, 92, 93, 94, 95, 98, 101, 106, 107, 109, 110, 112, 113, 114, 115, 116, 119, 122, 127, 128, 130, 131, 133, 134, 135, 136, 137, 140, 143, 148, 149, 151, 152, 154, 155, 156, 157, 158, 161, 164]
def asK2 : List Addr := [169, 170, 172, 173, 175, 176, 177, 178, 179, 182, 185, 190, 191, 193, 194, 196, 197, 198, 199, 200, 203, 206, 211, 212, 214, 215, 217, 218, 219, 220, 221, 224, 227, 232, 233, 235, 236, 238, 239, 240]
def asK3 : List Addr := [241, 242, 245, 247, 248, 250, 251, 252, 254, 255, 257, 258, 266, 269, 270, 271, 274, 275, 276, 279, 280, 281, 283, 284, 286, 287, 288, 290, 291, 293, 294, 295, 297, 298, 300, 301, 302, 304, 305, 307]
def asK4 : List Addr := [308, 309, 312, 313, 314, 317, 318, 319, 322, 323, 324, 325, 326, 327, 328, 331, 333, 334, 336, 337, 338, 340, 341, 343, 344, 345, 348, 349, 350, 352, 353, 355, 356, 357, 359, 360, 362, 363, 364, 366]
def asK5 : List Addr := [367, 369, 370, 371, 374, 375, 376, 378, 379, 381, 382, 390, 392, 393, 395, 396, 397, 399, 400, 402, 403, 404, 406, 407, 409, 410, 411, 412, 413, 414, 415, 425, 427, 428, 430, 431, 432, 434, 435, 437]
def asK6 : List Addr := [438, 439, 440, 441, 442, 443, 446, 449, 450, 451, 453, 454, 456, 457, 458, 460, 461, 463, 464, 465, 467, 468, 470, 471, 472, 474, 475, 477, 478, 479, 482, 483, 484, 487, 488, 489, 492, 493, 494, 497]
def asK7 : List Addr := [498, 506, 509, 510, 511, 514, 515, 516, 519, 520, 521, 523, 524, 526, 527, 528, 531, 532, 533, 536, 537, 538, 541, 542, 543, 545, 546, 548, 549, 550, 552, 553, 555, 556, 557, 559, 560, 562, 563, 564]
def asK8 : List Addr := [566, 567, 569, 570, 571, 573, 574, 576, 577, 578, 580, 581, 583, 584, 585, 586, 587, 588, 589, 599, 601, 602, 604, 605, 606, 608, 609, 611, 612, 613, 614, 617, 618, 619, 622, 623, 624, 626, 627, 629]
def asK9 : List Addr := [630, 631, 633, 634, 636, 637, 638, 640, 641, 643, 644, 645, 647, 648, 650, 651, 652, 654, 655, 657, 658, 659, 661, 662, 664, 665, 666, 668, 669, 671, 672, 673, 675, 676, 678, 679, 680, 681, 682, 683]
def asK10 : List Addr := [684, 687, 689, 690, 692, 693, 694, 697, 698, 699, 702, 703, 704, 706, 707, 709, 710, 711, 713, 714, 716, 717, 718, 721, 722, 723, 726, 727, 735, 738, 739, 740, 742, 743, 745, 746, 747, 749, 750, 752]
def asK11 : List Addr := [753, 754, 756, 757, 759, 760, 761, 764, 765, 766, 768, 769, 771, 772, 773, 775, 776, 778, 779, 780, 781, 782, 783, 784, 787, 789, 790, 792, 793, 794, 796, 797, 799, 800, 801, 803, 804, 806, 807, 808]
def asK12 : List Addr := [810, 811, 813, 814, 815, 817, 818, 820, 821, 822, 824, 825, 827, 828, 829, 831, 832, 834, 835, 836, 838, 839, 841, 842, 843, 845, 846, 848, 849, 850, 852, 853, 855, 856, 857, 859, 860, 862, 863, 864]
def asK13 : List Addr := [866, 867, 869, 870, 871, 873, 874, 876, 877, 878, 879, 881, 882, 884, 885, 886, 889, 890, 891, 893, 894, 896, 897, 898, 901, 902, 903, 905, 906, 908, 909, 910, 912, 913, 915, 916, 924, 925, 927, 928]
def asK14 : List Addr := [930, 931, 932, 934, 935, 937, 938, 939, 941, 942, 944, 945, 946, 947, 949, 950, 952, 953, 954, 955, 957, 958, 960, 961, 962, 963, 965, 966, 968, 969, 970, 971, 973, 974, 976, 977, 978, 979, 981, 982]
def asK15 : List Addr := [984, 985, 986, 988, 989, 991, 992, 993, 994, 995, 997, 998, 1000, 1001, 1002, 1003, 1005, 1006, 1008, 1009, 1010, 1012, 1013, 1015, 1016, 1017, 1019, 1020, 1022, 1023, 1024, 1026, 1027, 1029, 1030, 1031, 1033, 1034, 1036, 1037]
def asK16 : List Addr := [1038, 1040, 1041, 1043, 1044, 1045, 1047, 1048, 1050, 1051, 1052, 1054, 1055, 1057, 1058, 1059, 1061, 1062, 1064, 1065, 1066, 1068, 1069, 1071, 1072, 1073, 1075, 1076, 1078, 1079, 1080, 1082, 1083, 1085, 1086, 1087, 1089, 1090, 1092, 1093]
def asK17 : List Addr := [1094, 1096, 1097, 1099, 1100, 1101, 1103, 1104, 1106, 1107, 1108, 1110, 1111, 1113, 1114, 1115, 1117, 1118, 1120, 1121, 1122, 1124, 1125, 1127, 1128, 1129, 1131, 1132, 1134, 1135, 1136, 1138, 1139, 1141, 1142, 1143, 1145, 1146, 1148, 1149]
def asK18 : List Addr := [1150, 1152, 1153, 1155, 1156, 1157, 1159, 1160, 1162, 1163, 1164, 1166, 1167, 1169, 1170, 1171, 1173, 1174, 1176, 1177, 1178, 1179, 1180, 1181, 1182, 1185, 1187, 1188, 1190, 1191, 1192, 1194, 1195, 1197, 1198, 1199, 1201, 1202, 1204, 1205]
def asK19 : List Addr := [1206, 1209, 1210, 1211, 1213, 1214, 1216, 1217, 1218, 1221, 1222, 1223, 1225, 1226, 1228, 1229, 1230, 1233, 1234, 1235, 1238, 1239, 1240, 1242, 1243, 1245, 1246, 1247, 1250, 1251, 1252, 1255, 1256]
def asK : List Addr := asK0 ++ asK1 ++ asK2 ++ asK3 ++ asK4 ++ asK5 ++ asK6 ++ asK7 ++ asK8 ++ asK9 ++ asK10 ++ asK11 ++ asK12 ++ asK13 ++ asK14 ++ asK15 ++ asK16 ++ asK17 ++ asK18 ++ asK19
set_option maxHeartbeats 0 in
theorem ekK : ∀ P, asK = (hd0.heap_1 P).map (·.1) := fun P => by kernel_rfl
abbrev hkK : Hook := kHook hd0.heap_1 asK ekK
def obK (s : SharedT) : List (Option Obj) := asK.map (HandSHeadRun.getT s)
theorem obK_eq (s : SharedT) : obK s = hkK.obs s.abs := List.map_congr_left fun a _ => HandSHeadRun.getT_eq s a
theorem split2 {S A B : Type} (o : Option S) (f : S → A) (g : S → B) (a : A) (b : B) (h1 : o.map f = some a) (h2 : o.map g = some b) : o.map (fun s => (f s, g s)) = some (a, b) := by
  cases o with
  | none => cases h1
  | some s =>
    have e1 := Option.some.inj h1
    have e2 := Option.some.inj h2
    subst e1 e2
    rfl
theorem split3 {S A B C : Type} (o : Option S) (f : S → A) (g : S → B) (k : S → C) (a : A) (b : B) (c : C) (h1 : o.map (fun s => (f s, g s)) = some (a, b)) (h2 : o.map k = some c) : o.map (fun s => (f s, g s, k s)) = some (a, b, c) := by
  cases o with
  | none => cases h1
  | some s =>
    have e1 := Option.some.inj h1
    have e2 := Option.some.inj h2
    cases e1
    subst e2
    rfl
set_option maxHeartbeats 0 in
theorem runA (w : World) (os : OsState) : (HandSHeadRun.endF (HandSHeadRun.stepQ (HandSHeadRun.denQ HandSHeadRun.tabQ) Rw.prog w) 30000 Rw.prog w os).map (fun s => (HandSHeadRun.looksF Rw.prog (boot_heap w.params) s.abs, HandSHeadRun.seenQ qv names (importedModules Rw.prog.main.body) (fun s => xlAt qv [] s && recOk Rw.toRowW.records s) s.abs)) = some (true, openGood qv names) := by
  kernel_rfl
set_option maxHeartbeats 0 in
theorem runB (w : World) (os : OsState) : (HandSHeadRun.endF (HandSHeadRun.stepQ (HandSHeadRun.denQ HandSHeadRun.tabQ) Rw.prog w) 30000 Rw.prog w os).map obK = some (hkK.val w) := by
  kernel_rfl
theorem runK (w : World) : HandSHeadRun.RunEq Rw qv hkK obK 30000 names w := fun os => split3 _ _ _ _ _ _ _ (runA w os) (runB w os)
end
end
end FL
open PySem PySem.W PySem.Calls PyProof.Rows in
set_option maxRecDepth 100000 in
set_option maxHeartbeats 0 in
theorem PySem.Challenge.cw_oneedition_k85_copies_of_any_value_holds : PySem.Challenge.rw_oneedition_k85_copies_of_any_value.Holds := by
  w_on; o_law
  refine HandSHeadRun.head_any (r := FL.Rw) (q := FL.qv) (H := FL.hkK) (ob := FL.obK) (M := 30000) (loose := FL.names) (d := HandSHeadRun.topDef FL.Rw.prog 106) (kwd := []) FL.obK_eq
    (by kernel_rfl) (fun s => by kernel_rfl) FL.runK (by kernel_rfl) (by kernel_rfl) (by kernel_rfl) (by rfl) (by first | assumption | decide +kernel) (by decide +kernel) ⟨rfl, rfl, rfl, rfl, rfl, by decide +kernel⟩ ?hw ?hc
  case hw => w_witness2
  case hc =>
   k_fill
   refine FL.walk (l := PySem.Challenge.rw_oneedition_k85_copies_of_any_value) rfl (by kernel_rfl) (fun w h Y => PySem.W.kIn_of Y) ?F
   case F =>
    intro w mg fa h tabs KX G hmg0
    have hmg : mg ("law" : PySem.Str) = some (.ref fa) := by
      have e : (HandSHeadRun.topDef FL.Rw.prog 106).name = ("law" : PySem.Str) := by kernel_rfl
      rw [← e]
      exact hmg0
    refine' FL.all_mk tabs KX G hmg ?g_Record ?g_State ?g_Steps ?g_Contents ?g_Knowledge ?g_Keeper ?g_Spans ?g_BadCopies ?g_BadPiece ?g_NoCopy ?g_BadSpans ?g_BadWord ?g_NoAsk ?g_KE ?z_len ?z_range ?z_enumerate ?z_sum ?z_tuple ?z_list ?z_sorted ?z_dict ?z_zip ?z_any ?z_all ?z_set ?z_max ?z_min ?z_int ?z_abs ?z_repr ?z_bool ?z_str ?z_isinstance ?q_SMALL ?q_DIGITS ?q_MOST_SIGNS ?q_MOST_COPIES ?q_MOST_PIECE ?q_PAIR_forms ?q_PAIR_spans ?q_MOST ?pg_Record ?hd_Record ?po_Record ?sa_Record ?na_Record_seen_at ?na_Record_mark_told ?na_Record_weak_told ?na_Record_length_told ?na_Record_names_told ?na_Record_not_marks ?na_Record_byte_book ?na_Record_has_head ?na_Record_is_ended ?pg_State ?hd_State ?po_State ?sa_State ?na_State_copy_pairs ?na_State_piece_length ?na_State_time_now ?na_State_next_number ?na_State_ask_book ?na_State_answer_book ?na_State_fold_book ?na_State_knowledge ?mk_State ?kc_State ?pg_Steps ?hd_Steps ?po_Steps ?sa_Steps ?na_Steps_records ?na_Steps_numbers ?na_Steps_under_book ?na_Steps_meaning_from ?na_Steps_edition_from ?na_Steps_older_from ?na_Steps_group_of ?na_Steps_ring_of ?na_Steps_group_rows ?na_Steps_rings ?mk_Steps ?kc_Steps ?pg_Contents ?hd_Contents ?po_Contents ?sa_Contents ?na_Contents_records ?na_Contents_piece_length ?na_Contents_least_of ?na_Contents_members_of ?na_Contents_mark_of ?na_Contents_weak_of ?na_Contents_length_of ?na_Contents_names_of ?na_Contents_not_marks_of ?na_Contents_is_torn ?na_Contents_own_bytes ?na_Contents_piece_bytes ?na_Contents_piece_sizes ?na_Contents_bytes_of ?mk_Contents ?kc_Contents ?pg_Knowledge ?hd_Knowledge ?po_Knowledge ?sa_Knowledge ?na_Knowledge_records ?na_Knowledge_steps ?na_Knowledge_contents ?na_Knowledge_world_found ?mk_Knowledge ?kc_Knowledge ?pg_Keeper ?hd_Keeper ?po_Keeper ?sa_Keeper ?na_Keeper_state ?na_Keeper_depth ?na_Keeper_trial_number ?na_Keeper_trials_begun ?mk_Keeper ?kc_Keeper ?pg_Spans ?hd_Spans ?po_Spans ?sa_Spans ?na_Spans_pairs ?na_Spans_many_positions ?kit_NoneType ?kit_bool ?kit_int ?kit_str ?kit_list ?kit_tuple ?kit_dict ?kitS ?s1 ?s2 ?s3 ?s4 ?xop ?xns ?xtop ?yex ?yhd ?yty ?xL_e0 ?xsa_e0 ?xga_e0 ?xgg_e0 ?xno_e0 ?xi_e0 ?xt_e0 ?xk_e0 ?xex_e0 ?xty_e0 ?xhd_e0 ?xsu_e0 ?xve_e0 ?xsf_e0 ?xf_e0 ?xcd_e0 ?xco_e0 ?xvs_e0 ?xfl_e0 ?xcc_e0 ?xL_e1 ?xsa_e1 ?xga_e1 ?xgg_e1 ?xno_e1 ?xi_e1 ?xt_e1 ?xk_e1 ?xex_e1 ?xty_e1 ?xhd_e1 ?xsu_e1 ?xve_e1 ?xsf_e1 ?xf_e1 ?xcd_e1 ?xco_e1 ?xvs_e1 ?xfl_e1 ?xcc_e1 ?xL_e2 ?xsa_e2 ?xga_e2 ?xgg_e2 ?xno_e2 ?xi_e2 ?xt_e2 ?xk_e2 ?xex_e2 ?xty_e2 ?xhd_e2 ?xsu_e2 ?xve_e2 ?xsf_e2 ?xf_e2 ?xcd_e2 ?xco_e2 ?xvs_e2 ?xfl_e2 ?xcc_e2 ?xL_e3 ?xsa_e3 ?xga_e3 ?xgg_e3 ?xno_e3 ?xi_e3 ?xt_e3 ?xk_e3 ?xex_e3 ?xty_e3 ?xhd_e3 ?xsu_e3 ?xve_e3 ?xsf_e3 ?xf_e3 ?xcd_e3 ?xco_e3 ?xvs_e3 ?xfl_e3 ?xcc_e3 ?xL_e4 ?xsa_e4 ?xga_e4 ?xgg_e4 ?xno_e4 ?xi_e4 ?xt_e4 ?xk_e4 ?xex_e4 ?xty_e4 ?xhd_e4 ?xsu_e4 ?xve_e4 ?xsf_e4 ?xf_e4 ?xcd_e4 ?xco_e4 ?xvs_e4 ?xfl_e4 ?xcc_e4 ?xL_e5 ?xsa_e5 ?xga_e5 ?xgg_e5 ?xno_e5 ?xi_e5 ?xt_e5 ?xk_e5 ?xex_e5 ?xty_e5 ?xhd_e5 ?xsu_e5 ?xve_e5 ?xsf_e5 ?xf_e5 ?xcd_e5 ?xco_e5 ?xvs_e5 ?xfl_e5 ?xcc_e5 ?ys_0_0 ?ys_1_0 ?ys_1_1 ?a0 ?l0 ?c0 ?k0 ?a1 ?l1 ?c1 ?k1 ?a2 ?l2 ?c2 ?k2 ?a3 ?i3 ?l3 ?c3 ?k3 ?a4 ?i4 ?l4 ?c4 ?k4 ?a5 ?i5 ?l5 ?c5 ?k5 ?a6 ?i6 ?l6 ?c6 ?k6 ?a7 ?l7 ?c7 ?k7 ?a8 ?i8 ?l8 ?c8 ?k8 ?a9 ?i9 ?l9 ?c9 ?k9 ?a10 ?i10 ?l10 ?c10 ?k10 ?a11 ?i11 ?l11 ?c11 ?k11 ?a12 ?i12 ?l12 ?c12 ?k12 ?a13 ?i13 ?l13 ?c13 ?k13 ?a14 ?l14 ?c14 ?k14 ?a15 ?l15 ?c15 ?k15 ?a16 ?l16 ?c16 ?k16 ?a17 ?l17 ?c17 ?k17 ?a18 ?l18 ?c18 ?k18 ?a19 ?l19 ?c19 ?k19 ?a20 ?l20 ?c20 ?k20 ?a21 ?l21 ?c21 ?k21 ?a22 ?l22 ?c22 ?k22 ?a23 ?i23 ?l23 ?c23 ?k23 ?kw23 ?a24 ?pg24 ?pt24 ?pr24 ?l24 ?c24 ?k24 ?a25 ?pg25 ?pt25 ?pr25 ?l25 ?c25 ?k25 ?a26 ?pg26 ?pt26 ?pr26 ?l26 ?c26 ?k26 ?a27 ?pg27 ?pt27 ?pr27 ?l27 ?c27 ?k27 ?a28 ?pg28 ?pt28 ?pr28 ?l28 ?c28 ?k28 ?a29 ?i29 ?l29 ?c29 ?k29 ?a30 ?l30 ?c30 ?k30 ?a31 ?l31 ?c31 ?k31 ?a32 ?l32 ?c32 ?k32 ?a33 ?l33 ?c33 ?k33 ?a34 ?l34 ?c34 ?k34 ?a35 ?l35 ?c35 ?k35 ?a36 ?l36 ?c36 ?k36 ?a37 ?l37 ?c37 ?k37 ?a38 ?l38 ?c38 ?k38 ?lc38 ?hv38 ?nt38 ?rc38 ?a39 ?l39 ?c39 ?k39 ?aS0 ?lS0 ?cS0 ?kS0 ?aS1 ?lS1 ?cS1 ?kS1
    (case g_Record => k_is)
    (case g_State => k_is)
    (case g_Steps => k_is)
    (case g_Contents => k_is)
    (case g_Knowledge => k_is)
    (case g_Keeper => k_is)
    (case g_Spans => k_is)
    (case g_BadCopies => k_is)
    (case g_BadPiece => k_is)
    (case g_NoCopy => k_is)
    (case g_BadSpans => k_is)
    (case g_BadWord => k_is)
    (case g_NoAsk => k_is)
    (case g_KE => k_is)
    (case z_len => k_is)
    (case z_range => k_is)
    (case z_enumerate => k_is)
    (case z_sum => k_is)
    (case z_tuple => k_is)
    (case z_list => k_is)
    (case z_sorted => k_is)
    (case z_dict => k_is)
    (case z_zip => k_is)
    (case z_any => k_is)
    (case z_all => k_is)
    (case z_set => k_is)
    (case z_max => k_is)
    (case z_min => k_is)
    (case z_int => k_is)
    (case z_abs => k_is)
    (case z_repr => k_is)
    (case z_bool => k_is)
    (case z_str => k_is)
    (case z_isinstance => k_is)
    (case q_SMALL => k_is)
    (case q_DIGITS => k_is)
    (case q_MOST_SIGNS => k_is)
    (case q_MOST_COPIES => k_is)
    (case q_MOST_PIECE => k_is)
    (case q_PAIR_forms => k_is)
    (case q_PAIR_spans => k_is)
    (case q_MOST => k_is)
    (case pg_Record => k_is)
    (case hd_Record => k_is)
    (case po_Record => k_is)
    (case sa_Record => k_is)
    (case na_Record_seen_at => k_is)
    (case na_Record_mark_told => k_is)
    (case na_Record_weak_told => k_is)
    (case na_Record_length_told => k_is)
    (case na_Record_names_told => k_is)
    (case na_Record_not_marks => k_is)
    (case na_Record_byte_book => k_is)
    (case na_Record_has_head => k_is)
    (case na_Record_is_ended => k_is)
    (case pg_State => k_is)
    (case hd_State => k_is)
    (case po_State => k_is)
    (case sa_State => k_is)
    (case na_State_copy_pairs => k_is)
    (case na_State_piece_length => k_is)
    (case na_State_time_now => k_is)
    (case na_State_next_number => k_is)
    (case na_State_ask_book => k_is)
    (case na_State_answer_book => k_is)
    (case na_State_fold_book => k_is)
    (case na_State_knowledge => k_is)
    (case mk_State => k_is)
    (case kc_State => k_is)
    (case pg_Steps => k_is)
    (case hd_Steps => k_is)
    (case po_Steps => k_is)
    (case sa_Steps => k_is)
    (case na_Steps_records => k_is)
    (case na_Steps_numbers => k_is)
    (case na_Steps_under_book => k_is)
    (case na_Steps_meaning_from => k_is)
    (case na_Steps_edition_from => k_is)
    (case na_Steps_older_from => k_is)
    (case na_Steps_group_of => k_is)
    (case na_Steps_ring_of => k_is)
    (case na_Steps_group_rows => k_is)
    (case na_Steps_rings => k_is)
    (case mk_Steps => k_is)
    (case kc_Steps => k_is)
    (case pg_Contents => k_is)
    (case hd_Contents => k_is)
    (case po_Contents => k_is)
    (case sa_Contents => k_is)
    (case na_Contents_records => k_is)
    (case na_Contents_piece_length => k_is)
    (case na_Contents_least_of => k_is)
    (case na_Contents_members_of => k_is)
    (case na_Contents_mark_of => k_is)
    (case na_Contents_weak_of => k_is)
    (case na_Contents_length_of => k_is)
    (case na_Contents_names_of => k_is)
    (case na_Contents_not_marks_of => k_is)
    (case na_Contents_is_torn => k_is)
    (case na_Contents_own_bytes => k_is)
    (case na_Contents_piece_bytes => k_is)
    (case na_Contents_piece_sizes => k_is)
    (case na_Contents_bytes_of => k_is)
    (case mk_Contents => k_is)
    (case kc_Contents => k_is)
    (case pg_Knowledge => k_is)
    (case hd_Knowledge => k_is)
    (case po_Knowledge => k_is)
    (case sa_Knowledge => k_is)
    (case na_Knowledge_records => k_is)
    (case na_Knowledge_steps => k_is)
    (case na_Knowledge_contents => k_is)
    (case na_Knowledge_world_found => k_is)
    (case mk_Knowledge => k_is)
    (case kc_Knowledge => k_is)
    (case pg_Keeper => k_is)
    (case hd_Keeper => k_is)
    (case po_Keeper => k_is)
    (case sa_Keeper => k_is)
    (case na_Keeper_state => k_is)
    (case na_Keeper_depth => k_is)
    (case na_Keeper_trial_number => k_is)
    (case na_Keeper_trials_begun => k_is)
    (case mk_Keeper => k_is)
    (case kc_Keeper => k_is)
    (case pg_Spans => k_is)
    (case hd_Spans => k_is)
    (case po_Spans => k_is)
    (case sa_Spans => k_is)
    (case na_Spans_pairs => k_is)
    (case na_Spans_many_positions => k_is)
    (case kit_NoneType => kit_is)
    (case kit_bool => kit_is)
    (case kit_int => kit_is)
    (case kit_str => kit_is)
    (case kit_list => kit_is)
    (case kit_tuple => kit_is)
    (case kit_dict => kit_is)
    (case kitS => kit_is)
    (case s1 => k_is)
    (case s2 => k_is)
    (case s3 => k_is)
    (case s4 => k_is)
    (case xop => k_is)
    (case xns => k_is)
    (case xtop => exact rfl)
    (case yex => k_is)
    (case yhd => k_is)
    (case yty => k_is)
    (case xL_e0 => k_is)
    (case xsa_e0 => k_is)
    (case xga_e0 => k_is)
    (case xgg_e0 => k_is)
    (case xno_e0 => k_is)
    (case xi_e0 => k_is)
    (case xt_e0 => k_is)
    (case xk_e0 => k_is)
    (case xex_e0 => k_is)
    (case xty_e0 => k_is)
    (case xhd_e0 => k_is)
    (case xsu_e0 => ks_is)
    (case xve_e0 => k_is)
    (case xsf_e0 => k_is)
    (case xf_e0 => k_is)
    (case xcd_e0 => k_is)
    (case xco_e0 => k_is)
    (case xvs_e0 => exact rfl)
    (case xfl_e0 => exact (by decide +kernel))
    (case xcc_e0 => k_is)
    (case xL_e1 => k_is)
    (case xsa_e1 => k_is)
    (case xga_e1 => k_is)
    (case xgg_e1 => k_is)
    (case xno_e1 => k_is)
    (case xi_e1 => k_is)
    (case xt_e1 => k_is)
    (case xk_e1 => k_is)
    (case xex_e1 => k_is)
    (case xty_e1 => k_is)
    (case xhd_e1 => k_is)
    (case xsu_e1 => ks_is)
    (case xve_e1 => k_is)
    (case xsf_e1 => k_is)
    (case xf_e1 => k_is)
    (case xcd_e1 => k_is)
    (case xco_e1 => k_is)
    (case xvs_e1 => exact rfl)
    (case xfl_e1 => exact (by decide +kernel))
    (case xcc_e1 => k_is)
    (case xL_e2 => k_is)
    (case xsa_e2 => k_is)
    (case xga_e2 => k_is)
    (case xgg_e2 => k_is)
    (case xno_e2 => k_is)
    (case xi_e2 => k_is)
    (case xt_e2 => k_is)
    (case xk_e2 => k_is)
    (case xex_e2 => k_is)
    (case xty_e2 => k_is)
    (case xhd_e2 => k_is)
    (case xsu_e2 => ks_is)
    (case xve_e2 => k_is)
    (case xsf_e2 => k_is)
    (case xf_e2 => k_is)
    (case xcd_e2 => k_is)
    (case xco_e2 => k_is)
    (case xvs_e2 => exact rfl)
    (case xfl_e2 => exact (by decide +kernel))
    (case xcc_e2 => k_is)
    (case xL_e3 => k_is)
    (case xsa_e3 => k_is)
    (case xga_e3 => k_is)
    (case xgg_e3 => k_is)
    (case xno_e3 => k_is)
    (case xi_e3 => k_is)
    (case xt_e3 => k_is)
    (case xk_e3 => k_is)
    (case xex_e3 => k_is)
    (case xty_e3 => k_is)
    (case xhd_e3 => k_is)
    (case xsu_e3 => ks_is)
    (case xve_e3 => k_is)
    (case xsf_e3 => k_is)
    (case xf_e3 => k_is)
    (case xcd_e3 => k_is)
    (case xco_e3 => k_is)
    (case xvs_e3 => exact rfl)
    (case xfl_e3 => exact (by decide +kernel))
    (case xcc_e3 => k_is)
    (case xL_e4 => k_is)
    (case xsa_e4 => k_is)
    (case xga_e4 => k_is)
    (case xgg_e4 => k_is)
    (case xno_e4 => k_is)
    (case xi_e4 => k_is)
    (case xt_e4 => k_is)
    (case xk_e4 => k_is)
    (case xex_e4 => k_is)
    (case xty_e4 => k_is)
    (case xhd_e4 => k_is)
    (case xsu_e4 => ks_is)
    (case xve_e4 => k_is)
    (case xsf_e4 => k_is)
    (case xf_e4 => k_is)
    (case xcd_e4 => k_is)
    (case xco_e4 => k_is)
    (case xvs_e4 => exact rfl)
    (case xfl_e4 => exact (by decide +kernel))
    (case xcc_e4 => k_is)
    (case xL_e5 => k_is)
    (case xsa_e5 => k_is)
    (case xga_e5 => k_is)
    (case xgg_e5 => k_is)
    (case xno_e5 => k_is)
    (case xi_e5 => k_is)
    (case xt_e5 => k_is)
    (case xk_e5 => k_is)
    (case xex_e5 => k_is)
    (case xty_e5 => k_is)
    (case xhd_e5 => k_is)
    (case xsu_e5 => ks_is)
    (case xve_e5 => k_is)
    (case xsf_e5 => k_is)
    (case xf_e5 => k_is)
    (case xcd_e5 => k_is)
    (case xco_e5 => k_is)
    (case xvs_e5 => exact rfl)
    (case xfl_e5 => exact (by decide +kernel))
    (case xcc_e5 => k_is)
    (case ys_0_0 => k_is)
    (case ys_1_0 => k_is)
    (case ys_1_1 => k_is)
    (case a0 => k_is)
    (case l0 => k_is)
    (case c0 => k_is)
    (case k0 => k_is)
    (case a1 => k_is)
    (case l1 => k_is)
    (case c1 => k_is)
    (case k1 => k_is)
    (case a2 => k_is)
    (case l2 => k_is)
    (case c2 => k_is)
    (case k2 => k_is)
    (case a3 => k_is)
    (case i3 => k_is)
    (case l3 => k_is)
    (case c3 => k_is)
    (case k3 => k_is)
    (case a4 => k_is)
    (case i4 => k_is)
    (case l4 => k_is)
    (case c4 => k_is)
    (case k4 => k_is)
    (case a5 => k_is)
    (case i5 => k_is)
    (case l5 => k_is)
    (case c5 => k_is)
    (case k5 => k_is)
    (case a6 => k_is)
    (case i6 => k_is)
    (case l6 => k_is)
    (case c6 => k_is)
    (case k6 => k_is)
    (case a7 => k_is)
    (case l7 => k_is)
    (case c7 => k_is)
    (case k7 => k_is)
    (case a8 => k_is)
    (case i8 => k_is)
    (case l8 => k_is)
    (case c8 => k_is)
    (case k8 => k_is)
    (case a9 => k_is)
    (case i9 => k_is)
    (case l9 => k_is)
    (case c9 => k_is)
    (case k9 => k_is)
    (case a10 => k_is)
    (case i10 => k_is)
    (case l10 => k_is)
    (case c10 => k_is)
    (case k10 => k_is)
    (case a11 => k_is)
    (case i11 => k_is)
    (case l11 => k_is)
    (case c11 => k_is)
    (case k11 => k_is)
    (case a12 => k_is)
    (case i12 => k_is)
    (case l12 => k_is)
    (case c12 => k_is)
    (case k12 => k_is)
    (case a13 => k_is)
    (case i13 => k_is)
    (case l13 => k_is)
    (case c13 => k_is)
    (case k13 => k_is)
    (case a14 => k_is)
    (case l14 => k_is)
    (case c14 => k_is)
    (case k14 => k_is)
    (case a15 => k_is)
    (case l15 => k_is)
    (case c15 => k_is)
    (case k15 => k_is)
    (case a16 => k_is)
    (case l16 => k_is)
    (case c16 => k_is)
    (case k16 => k_is)
    (case a17 => k_is)
    (case l17 => k_is)
    (case c17 => k_is)
    (case k17 => k_is)
    (case a18 => k_is)
    (case l18 => k_is)
    (case c18 => k_is)
    (case k18 => k_is)
    (case a19 => k_is)
    (case l19 => k_is)
    (case c19 => k_is)
    (case k19 => k_is)
    (case a20 => k_is)
    (case l20 => k_is)
    (case c20 => k_is)
    (case k20 => k_is)
    (case a21 => k_is)
    (case l21 => k_is)
    (case c21 => k_is)
    (case k21 => k_is)
    (case a22 => k_is)
    (case l22 => k_is)
    (case c22 => k_is)
    (case k22 => k_is)
    (case a23 => k_is)
    (case i23 => k_is)
    (case l23 => k_is)
    (case c23 => k_is)
    (case k23 => k_is)
    (case kw23 => k_is)
    (case a24 => k_is)
    (case pg24 => k_is)
    (case pt24 => k_is)
    (case pr24 => k_is)
    (case l24 => k_is)
    (case c24 => k_is)
    (case k24 => k_is)
    (case a25 => k_is)
    (case pg25 => k_is)
    (case pt25 => k_is)
    (case pr25 => k_is)
    (case l25 => k_is)
    (case c25 => k_is)
    (case k25 => k_is)
    (case a26 => k_is)
    (case pg26 => k_is)
    (case pt26 => k_is)
    (case pr26 => k_is)
    (case l26 => k_is)
    (case c26 => k_is)
    (case k26 => k_is)
    (case a27 => k_is)
    (case pg27 => k_is)
    (case pt27 => k_is)
    (case pr27 => k_is)
    (case l27 => k_is)
    (case c27 => k_is)
    (case k27 => k_is)
    (case a28 => k_is)
    (case pg28 => k_is)
    (case pt28 => k_is)
    (case pr28 => k_is)
    (case l28 => k_is)
    (case c28 => k_is)
    (case k28 => k_is)
    (case a29 => k_is)
    (case i29 => k_is)
    (case l29 => k_is)
    (case c29 => k_is)
    (case k29 => k_is)
    (case a30 => k_is)
    (case l30 => k_is)
    (case c30 => k_is)
    (case k30 => k_is)
    (case a31 => k_is)
    (case l31 => k_is)
    (case c31 => k_is)
    (case k31 => k_is)
    (case a32 => k_is)
    (case l32 => k_is)
    (case c32 => k_is)
    (case k32 => k_is)
    (case a33 => k_is)
    (case l33 => k_is)
    (case c33 => k_is)
    (case k33 => k_is)
    (case a34 => k_is)
    (case l34 => k_is)
    (case c34 => k_is)
    (case k34 => k_is)
    (case a35 => k_is)
    (case l35 => k_is)
    (case c35 => k_is)
    (case k35 => k_is)
    (case a36 => k_is)
    (case l36 => k_is)
    (case c36 => k_is)
    (case k36 => k_is)
    (case a37 => k_is)
    (case l37 => k_is)
    (case c37 => k_is)
    (case k37 => k_is)
    (case a38 => k_is)
    (case l38 => k_is)
    (case c38 => k_is)
    (case k38 => k_is)
    (case lc38 => k_is)
    (case hv38 => exact rfl)
    (case nt38 => exact (by kernel_rfl))
    (case rc38 => exact (show _ = some (HandSHeadRun.topDef FL.Rw.prog 105) from by kernel_rfl))
    (case a39 => k_is)
    (case l39 => k_is)
    (case c39 => k_is)
    (case k39 => k_is)
    (case aS0 => k_is)
    (case lS0 => k_is)
    (case cS0 => k_is)
    (case kS0 => k_is)
    (case aS1 => k_is)
    (case lS1 => k_is)
    (case cS1 => k_is)
    (case kS1 => k_is)
#print axioms PySem.Challenge.cw_oneedition_k85_copies_of_any_value_holds
