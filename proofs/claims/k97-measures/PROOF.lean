import PyProof.Rows.All
import Wide.All
import OpenK.AllK
import Wide.FinOn
import KE.KStateDown
import KE.KSuper
import KE.KStar
import HandS.ForMost
import HandS.Exc
import HandS.TryOnly
import HandS.Codes
import HandS.More
import HandS.Conv
import HandS.Star
import HandS.ClsMeth
import HandS.Defaults
import HandS.IsInst
import HandS.FStr
import HandS.Flow
import HandS.Style
import HandS.TupAny
import HandS.TupMul
import HandS.NoneIn
import HandS.Evl
import HandS.SetKeys
import HandS.Zip
import HandS.Slots
import HandS.Walk
import HandS.Head0
import HandS.Head1
import HandS.Head2
import HandS.HeadEnd
import HandS.HeadHook1
import HandS.HeadHook2
import HandS.HeadHook3
import HandS.RaiseMore
import KE.KTupSum
import KE.GoesMore
import KE.GoesZip
import KE.GoesEnum
import HandS.Comp
import HandS.Set
import HandS.SetBool
import HandS.TupSets
import OpenK.KMeth
import KE.KFmtOwn
import HandS.MakeKwOnly
import HandS.Nested
import PySem.Challenge.RW_everybase_k97_whole_measures_of_programs
set_option Elab.async false
set_option linter.all false
set_option maxRecDepth 100000
set_option maxHeartbeats 4000000
/-! E97A: what the proof adds to the layer: promises by positional values (FR), calls of such defs. -/
namespace E97
open PySem PySem.Spec PyProof.Rows L2 Evl

/-- a promise without exceptions -/
abbrev SP0 := List V → Hp → VK → Prop
def FR (P : Program) (w : World) (K : PySem.W.Frag) (mg : Str → Option Value) (base : Heap) (k : Nat) (f : Addr) (sp : SP0) : Prop :=
  FnR P w K mg base CX0 k f (fun vs H Q _ => sp vs H Q)
section
variable {P : Program} {w : World} {K : PySem.W.Frag} {mg : Str → Option Value} {base : Heap} {j k : Nat} {f : Addr} {sp sp' : SP0}
theorem FR.mono (F : FR P w K mg base j f sp) (h : j ≤ k) : FR P w K mg base k f sp := FnR.mono F h
theorem FR.imp (F : FR P w K mg base k f sp) (h : ∀ vs H Q, sp' vs H Q → sp vs H Q) : FR P w K mg base k f sp' := FnR.imp F fun vs H Q _ q => h vs H Q q
variable {x qual : Str} {params : Arguments} {body : List Stmt} {scope : Scope} {fd : FuncData} {N ps : List Str}
/-- THE RULE: a def without defaults, by its body -/
theorem mkR (F : FunD K x qual params body scope [] [] f fd) (S : FnScope N ps scope)
    (hb : ∀ (kV doc pm : Value) (an : Option Addr) (cdv ct : Value) (us : List Value), us.length = ps.length → bindArgs (PySem.W.fnOf x qual params body scope .none kV doc pm an cdv ct) ⟨us, []⟩ = pure (ps.zip us))
    (len : ∀ vs H Q, sp vs H Q → vs.length = ps.length)
    (hbody : ∀ (cdv : Value) (A : Around) (outer : List Env) (s : Shared) (H : Hp) (vs : List V) (Q : VK) (E : XK), Room k (A.deeper (envOfC qual scope s.heap.objs.size f cdv)) → sp vs H Q →
      ∃ t, PSs (cxOf CX0 P w K mg base N qual scope f cdv A outer s H E).nox body t ∧ t { nx := fun _ H' => Q .non H', rt := Q } (start N vs) H) : FR P w K mg base (k + 1) f sp := by
  have G : FnOk P w K mg base CX0 (k + 1) f fd ps (fun vs H Q _ => sp vs H Q) := by
    refine F.ok S (fun vs H Q E h => len vs H Q h) fun cdv A outer s H vs Q E hr h => ?_
    obtain ⟨t, ht, q⟩ := hbody cdv A outer s H vs Q E hr h
    exact ⟨t, ht.nox, q⟩
  have R := G.raw (F.bindsN hb) .nil
  intro A outer s H us vs Q E hr e0 r hs
  exact R A outer s H us vs Q E hr e0 r (by show sp (vs ++ []) H Q; rw [List.append_nil]; exact hs)
end

section
variable {X : Cx} {k : Nat} {f C : Addr} {sp : SP0} {x m : Str} {p pos apos : Pos} {e o : Expr} {es : List Expr} {ta : TE} {t : TA}
abbrev FRX (X : Cx) (k : Nat) (f : Addr) (sp : SP0) : Prop := FR X.prog X.w X.K X.mg X.base k f sp
def tCallF (sp : SP0) (t : TA) : TE := fun σ H Q => t σ H fun vs H1 => sp vs H1 Q
/-- f(e, ..) -/
theorem pe_callF (F : FRX X k f sp) (hr : Room k X.A) (hg : Gl X x) (hm : X.mg x = some (.ref f)) (hk : PySem.W.keepIn X.K (.ref f) = true) (ha : PA X (e :: es) t) (hdb : (x == ("__debug__" : Str)) = false := by decide)
    (he : starEach (e :: es) X.env = (false, eval e X.env) :: starEach es X.env := by rfl) (hpl : (backTo pos (starEach es X.env)).any (·.1) = false := by rfl) :
    PE X (.Call (.Name x p) (e :: es) [] pos) (tCallF sp t) := by
  refine ⟨fun pins s σ H Q I h => ?_⟩
  refine wpAny_Call_Name_kw (ld_glob I hg hm ?_ hdb)
  refine PySem.W.callWith_K (h₀ := X.base) I.ok.mod.kin hk (thn (ha.run pos pins s σ H _ I h) fun us s1 ⟨vs, H1, I1, r, q⟩ => ⟨I1.kIn, ?_⟩) he hpl
  exact wpAny_call (run_fnR (E := E0) F hr pass0 I1 r q)
theorem pe_callF0 (F : FRX X k f sp) (hr : Room k X.A) (hg : Gl X x) (hm : X.mg x = some (.ref f)) (hk : PySem.W.keepIn X.K (.ref f) = true) (hdb : (x == ("__debug__" : Str)) = false := by decide) :
    PE X (.Call (.Name x p) [] [] pos) (tCallF sp tNil) := by
  refine ⟨fun pins s σ H Q I h => ?_⟩
  refine wpAny_Call_Name_kw (ld_glob I hg hm ?_ hdb)
  exact PySem.W.callWith_K0 I.kIn hk (wpAny_call (run_fnR (us := []) (E := E0) F hr pass0 I .nil h))
def tMethF (C : Addr) (m : Str) (sp : SP0) (ta : TE) (t : TA) : TE := fun σ H Q => ta σ H fun x H1 => ∃ a dx fs, x = .ref a ∧ H1 a = some (.ins C dx fs) ∧ fs.lookup m = none ∧ t σ H1 fun vs H2 => sp (x :: vs) H2 Q
/-- o.m(e, ..) -/
theorem pe_methF {pl : Sem Bool} (he : PE X o ta) (c : Cls X.K C) (hm : Meth X.K C m f) (F : FRX X k f sp) (hr : Room k X.A) (ha : PA X (e :: es) t)
    (hst : starEach (e :: es) X.env = (false, eval e X.env) :: starEach es X.env := by rfl) (hpl : (backTo pos (starEach es X.env)).any (·.1) = false := by rfl)
    (ht : eval (.Call (.Attribute o m apos) (e :: es) [] pos) X.env = (do
      let ov ← eval o X.env
      standAt apos.atName
      let (f, first) ← holding [ov] (getMethod ov m pl)
      callWith pos f first (backTo pos (starEach (e :: es) X.env)) (backToKw pos (keywordEach [] X.env))) := by rfl) :
    PE X (.Call (.Attribute o m apos) (e :: es) [] pos) (tMethF C m sp ta t) :=
  pe_methR (E := E0) (pl := pl) he c hm F hr pass0 ha hst hpl ht
/-- o.m() -/
theorem pe_methF0 {pl : Sem Bool} (he : PE X o ta) (c : Cls X.K C) (hm : Meth X.K C m f) (F : FRX X k f sp) (hr : Room k X.A)
    (ht : eval (.Call (.Attribute o m apos) [] [] pos) X.env = (do
      let ov ← eval o X.env
      standAt apos.atName
      let (f, first) ← holding [ov] (getMethod ov m pl)
      callWith pos f first (backTo pos (starEach [] X.env)) (backToKw pos (keywordEach [] X.env))) := by rfl) :
    PE X (.Call (.Attribute o m apos) [] [] pos) (tMethF C m sp ta tNil) := by
  refine ⟨fun pins s σ H Q I h => ?_⟩
  refine PySem.W.methodCall_KW (pl := pl) (thn (he.run pins s σ H _ I h) fun u s1 ⟨x, H1, I1, rx, a, dx, fs, ex, ea, l, q⟩ => ?_) ht
  subst ex
  obtain rfl : u = Value.ref a := rx
  refine getmeth_ok I1 ea c hm l ?_
  exact PySem.W.callWith_K0 (first := [.ref a]) I1.kIn hm.kp (wpAny_call (run_fnR (us := [.ref a]) (vs := [.ref a]) (E := E0) F hr pass0 I1 (.cons rfl .nil) q))
def tMakeF (C : Addr) (sp : SP0) (t : TA) : TE := fun σ H Q => t σ H fun vs H1 => ∀ x dx, H1 x = Option.none → H1 dx = Option.none → dx ≠ x →
  sp (V.ref x :: vs) (upd (upd H1 dx (.own x)) x (.ins C dx [])) (fun v H2 => v = .non ∧ Q (.ref x) H2)
/-- C(e, ..) -/
theorem pe_makeF (M : Mk X.K C f) (F : FRX X k f sp) (hr : Room (k + 1) X.A) (hg : Gl X x) (hm : X.mg x = some (.ref C)) (ha : PA X (e :: es) t) (hdb : (x == ("__debug__" : Str)) = false := by decide)
    (he : starEach (e :: es) X.env = (false, eval e X.env) :: starEach es X.env := by rfl) (hpl : (backTo pos (starEach es X.env)).any (·.1) = false := by rfl) : PE X (.Call (.Name x p) (e :: es) [] pos) (tMakeF C sp t) :=
  StX.pe_makeR (E := E0) M F hr hg hm pass0 ha hdb he hpl
theorem pe_makeF0 (M : Mk X.K C f) (F : FRX X k f sp) (hr : Room (k + 1) X.A) (hg : Gl X x) (hm : X.mg x = some (.ref C)) (hdb : (x == ("__debug__" : Str)) = false := by decide) : PE X (.Call (.Name x p) [] [] pos) (tMakeF C sp tNil) := by
  refine ⟨fun pins s σ H Q I h => ?_⟩
  refine wpAny_Call_Name_kw (ld_glob I hg hm ?_ hdb)
  exact PySem.W.callWith_K0 I.kIn M.kp (StX.run_makeR (us := []) (E := E0) M F hr pass0 I .nil h)
/-- C(e, .., *y) -/
theorem pe_makeS2 (M : Mk X.K C f) (F : FRX X k f sp) (hr : Room (k + 1) X.A) (hg : Gl X x) (hm : X.mg x = some (.ref C)) (ha : PA X (e :: es) t) (hdb : (x == ("__debug__" : Str)) = false := by decide)
    (he : starEach (e :: es) X.env = (false, eval e X.env) :: starEach es X.env := by rfl) (hst : (backTo pos (starEach es X.env)).any (·.1) = true := by rfl) : PE X (.Call (.Name x p) (e :: es) [] pos) (tMakeF C sp t) := by
  refine ⟨fun pins s σ H Q I h => ?_⟩
  refine wpAny_Call_Name_kw (ld_glob I hg hm ?_ hdb)
  refine PySem.W.callWith_S2 (h₀ := X.base) I.ok.mod.kin M.kp (thn (ha.run pos pins s σ H _ I h) fun us s1 ⟨vs, H1, I1, r, q⟩ => ⟨I1.kIn, ?_⟩) he hst
  exact StX.run_makeR (E := E0) M F hr pass0 I1 r q
def tMakeS1 (K : PySem.W.Frag) (C : Addr) (sp : SP0) (te : TE) : TE := fun σ H Q => te σ H fun y H1 => ∃ a xs, y = V.ref a ∧ (SqT K H1 a xs ∨ SqL K H1 a xs) ∧ ∀ x dx, H1 x = Option.none → H1 dx = Option.none → dx ≠ x →
  sp (V.ref x :: xs) (upd (upd H1 dx (.own x)) x (.ins C dx [])) (fun v H2 => v = .non ∧ Q (.ref x) H2)
/-- C(*y) -/
theorem pe_makeS1 {te : TE} {sp_ : Pos} (M : Mk X.K C f) (F : FRX X k f sp) (hr : Room (k + 1) X.A) (hg : Gl X x) (hm : X.mg x = some (.ref C)) (he : PE X e te) (hdb : (x == ("__debug__" : Str)) = false := by decide)
    (hst : starEach [.Starred e sp_] X.env = [(true, eval e X.env)] := by rfl) : PE X (.Call (.Name x p) [.Starred e sp_] [] pos) (tMakeS1 X.K C sp te) := by
  refine ⟨fun pins s σ H Q I h => ?_⟩
  refine wpAny_Call_Name_kw (ld_glob I hg hm ?_ hdb)
  refine PySem.W.callWith_S (h₀ := X.base) I.ok.mod.kin M.kp (thn (he.run pins s σ H _ I h) fun v s1 ⟨y, H1, I1, ry, a, xs, ey, hxs, q⟩ => ?_) hst
  subst ey
  obtain rfl : v = Value.ref a := ry
  exact StX.star_any I1 hxs fun us s2 I2 rv => ⟨I2.kIn, StX.run_makeR (E := E0) M F hr pass0 I2 rv q⟩
end
end E97
set_option Elab.async false
set_option linter.all false
set_option maxRecDepth 100000
set_option maxHeartbeats 4000000
/-! E97R: rules that the layer has not: sum and all of a tuple, extend by a tuple, str of a text or an int. -/
namespace E97
open PySem PySem.Spec PyProof.Rows L2 Evl
section
variable {X : Cx}
theorem isTuple_of {h : Heap} {a : Addr} {items : Array Value} (x : IsTup h a items) : h.IsTuple a items := x
/-- sum(t) of a tuple of ints -/
def rSumT (K : PySem.W.Frag) : List V → Hp → VK → Prop := fun vs H Q => ∃ (a : Addr) (ns : List Int), vs = [V.ref a] ∧ SqT K H a (ns.map V.int) ∧ Q (.int ns.sum) H
theorem crT_sum (hc : X.calm = true) : CallR X (.builtin "sum") (rSumT X.K) := by
  intro pins s σ H vs us Q I r h
  obtain ⟨a, ns, rfl, hs, q⟩ := h
  obtain ⟨its, rv, hl, _⟩ := I.tuple hs
  rw [Vals.ref1 r]
  have hi := rv.ints
  obtain ⟨xs, e⟩ := hi.allInts.items
  have hn : numsOf (intItems xs).toList = ns := by rw [← e]; exact hi.numsOf
  rw [nums_intItems] at hn
  rw [e] at hl
  refine PySem.W.ktm_sumG (I.ok.hd hc) (isTuple_of hl) fun h' tk t' hk => ?_
  rw [preSum_eq, List.take_of_length_le (by simp), hn]
  exact ⟨.int _, H, I.kept hk, ⟨_, rfl⟩, q⟩
def rAllT (K : PySem.W.Frag) : List V → Hp → VK → Prop := fun vs H Q => ∃ (a : Addr) (bs : List Bool), vs = [V.ref a] ∧ SqT K H a (bs.map V.bl) ∧ Q (.bl (bs.all id)) H
theorem iter_anyT {prog : Program} {w : World} {A : Around} {E : Value → Shared → Prop} {s : Shared} {l : Addr} {items : Array Value} {Q : Value → Shared → Prop} (hl : s.heap.IsTuple l items)
    (h : ∀ s₂ : Shared, s₂ = { s with heap := s.heap.push { cls := .type "tuple_iterator", data := .fields #[.ref l, .int 0 0] } } →
      (s₂.heap.IsTupleIter s.heap.objs.size l 0 ∧ s₂.heap.IsTuple l items) → l ≠ s.heap.objs.size → Q (.ref s.heap.objs.size) s₂) : wpAny (model prog w) A (pyIter (.ref l)) Q E s := by
  have hlt : l < s.heap.objs.size := by obtain ⟨_, e, _⟩ := hl; exact Heap.lt_size e
  exact wpAny_pyIter_tuple hl (h _ rfl ⟨⟨_, Heap.get?_push_size _ rfl, rfl, rfl⟩, hl.at fun o e => Heap.get?_push_of_some _ e⟩ (Nat.ne_of_lt hlt))
theorem crT_all (hc : X.calm = true) : CallR X (.builtin "all") (rAllT X.K) := by
  intro pins s σ H vs us Q I r h
  obtain ⟨a, bs, rfl, hs, q⟩ := h
  obtain ⟨its, rv, hl, _⟩ := I.tuple hs
  rw [Vals.ref1 r]
  have hb := rv.bls
  refine call_all_walk (iter_anyT (isTuple_of hl) fun s₂ e2 st hne => ?_)
  subst e2
  refine ⟨_, _, _, _, _, _, _, rfl, Walks.tuple (A := X.A.in1) (I.ok.hd hc) _ a hne its.toArray, st, truth_bools hb, fun h' tk hk => ?_⟩
  refine ⟨.bl _, H, I.kept fun b o eo => hk b o (fun hmem => ?_) (Heap.get?_push_of_some _ eo), ?_, q⟩
  · rcases List.mem_cons.mp hmem with e1 | hmem
    · exact absurd (e1 ▸ Heap.lt_size eo) (Nat.lt_irrefl _)
    · cases hmem
  · show Value.bool _ = Value.bool _
    rw [← L2.all_range, hb, List.size_toArray, List.length_map]
/-- str of a text, of an int -/
theorem call_strA : CallR X (.type "str") (fun xs H Q => (∃ a, xs = [.str a] ∧ Q (.str a) H) ∨ ∃ i, xs = [.int i] ∧ i.natAbs.log2 < 1920 ∧ Q (.str (toString i)) H) := by
  intro pins s σ H xs us Q I r h
  rcases h with h | h
  · exact SkE.call_str_str pins s σ H xs us Q I r h
  · exact call_str_int pins s σ H xs us Q I r h
/-- list.extend by a tuple -/
theorem list_extend_tup (l : Addr) (items : Array Value) (n : Nat) (b : Addr) (items2 : Array Value) (n2 : Nat) (dd : Option Addr) (sl : Array (Option Value)) (hs0 : ¬(!items.isEmpty && Builtin.List.listTooLong (items.size + items2.size)) = true) (hs1 : items.size ≤ sizeLine) (hs2 : items.size + items2.size ≤ sizeLine + 1) :
    Meets (Builtin.«list.extend» ⟨[.ref l, .ref b], []⟩) (fun _ R s => s.heap.get? l = some { cls := .type "list", dict := none, data := .seq items n, slots := #[] } ∧ s.heap.get? b = some { cls := .type "tuple", dict := dd, data := .seq items2 n2, slots := sl } ∧ R (.ok (.ret Value.none)) { s with heap := s.heap.update l (Obj.mapSeq fun x => x ++ items2), toks := s.toks }) :=
  .of_wp fun prog w A R s h => by
    obtain ⟨hp, g, d, tk, os⟩ := s; obtain ⟨hl, hb, h⟩ := h; have f2 := sub_tuple_tuple; have f3 := sub_list_list; have f4 := sub_tuple_list; have f5 := sub_list_tuple;
    have hz' : (items ++ items2).size ≤ sizeLine + 1 := by rw [Array.size_append]; exact hs2
    wp_walk using (wpAny_updateSeq hl rfl (hz := hs1) (_hz' := hz')), wpAny_loadPart' hl, wpAny_loadPart_at hb; exact ⟨_, rfl, h⟩
/-- list.extend by a list or a tuple that stand in H -/
def rExtendA (K : PySem.W.Frag) : V → List V → Hp → VK → Prop := fun x vs H Q => ∃ l b xs zs, x = .ref l ∧ vs = [.ref b] ∧ H l = some (.lst xs) ∧ (H b = some (.lst zs) ∨ SqT K H b zs) ∧ xs.length + zs.length ≤ sizeLine ∧ Q .non (upd H l (.lst (xs ++ zs)))
theorem mt_extendA : MtM X "list.extend" (rExtendA X.K) := by
  intro pins s σ H x vs v us Q I rx rv h
  obtain ⟨l, b, xs, zs, rfl, rfl, hH, hB, hz, q⟩ := h
  rcases hB with hB | hB
  · exact mt_extend pins s σ H _ _ v us Q I rx rv ⟨l, b, xs, zs, rfl, rfl, hH, hB, hz, q⟩
  cases rx
  obtain ⟨u, rfl, ru⟩ := rv.one
  cases ru
  obtain ⟨z, its, n, r, hl, e⟩ := I.lstM hH
  obtain ⟨its2, r2, ⟨o2, e2, c2, n2, d2⟩, z2⟩ := I.tuple hB
  obtain ⟨oc, od, dt, sl⟩ := o2
  simp only at c2 d2
  subst c2 d2
  have hl2 := r2.length
  have hsz : its.toArray.size + its2.toArray.size ≤ sizeLine := by rw [List.size_toArray, List.size_toArray]; omega
  have hlong : ¬ (!its.toArray.isEmpty && Builtin.List.listTooLong (its.toArray.size + its2.toArray.size)) = true := by
    rw [notLongL hsz, Bool.and_false]
    exact Bool.false_ne_true
  refine call_meets F.slot_list_extend ⟨_, e, rfl⟩ F.entry_list_extend (F.args_list_extend_2 _ _)
    (list_extend_tup l its.toArray n b its2.toArray n2 od sl hlong (by rw [List.size_toArray]; omega) (by omega)) ⟨e, e2, ?_⟩
  refine ⟨.non, _, I.lset (its' := its ++ its2) hH e (by simp) (r.append r2) ?_, rfl, q⟩
  rw [List.length_append]
  omega
end
end E97
/-! ### the rules with the written part named (in a comprehension's block X.K is not K by its letters) -/
namespace E97
open PySem PySem.Spec PyProof.Rows L2 Evl
section
variable {X : Cx} {K : PySem.W.Frag} (hK : X.K = K)
include hK
theorem kix_list : IxR X (rIxL K) := by subst hK; exact ix_list
theorem kix_tup : IxR X (rIxT K) := by subst hK; exact ix_tup
theorem ksl_list : SlR X (rSlL K) := by subst hK; exact sl_list
theorem ksl_tup : SlR X (rSlA K) := by subst hK; exact sl_tupA
theorem kop_in : OpR X (compareOp .In) (rIn K false) := by subst hK; exact op_in_seq
theorem kop_notIn : OpR X (compareOp .NotIn) (rIn K true) := by subst hK; exact op_notIn_seq
theorem kop_eqD (hu : X.A.units + 64 < cLine) : OpR X (compareOp .Eq) (rEqD K) := by subst hK; exact op_eqD hu
theorem kop_neD (hu : X.A.units + 64 < cLine) : OpR X (compareOp .NotEq) (rNeD K) := by subst hK; exact op_neD hu
theorem kop_catA : OpR X (binaryOp .Add) (rCatA K) := by subst hK; exact op_catA
theorem kop_repT : OpR X (binaryOp .Mult) (rRepT K) := by subst hK; exact op_repT
theorem kcall_len : CallR X (.builtin "len") (rLenS K) := by subst hK; exact call_len_seq
theorem kcall_isi : CallR X (.builtin "isinstance") (rIsi K) := by subst hK; exact call_isi
theorem kcr_all (hc : X.calm = true) : CallR X (.builtin "all") (rAll K) := by subst hK; exact cr_all hc
theorem kcrT_all (hc : X.calm = true) : CallR X (.builtin "all") (rAllT K) := by subst hK; exact crT_all hc
theorem kcr_sum (hc : X.calm = true) : CallR X (.builtin "sum") (rSum K) := by subst hK; exact cr_sum hc
theorem kcrT_sum (hc : X.calm = true) : CallR X (.builtin "sum") (rSumT K) := by subst hK; exact crT_sum hc
def rTupOf (K : PySem.W.Frag) : List V → Hp → VK → Prop := fun xs H Q => ∃ p ys, xs = [.ref p] ∧ ((SqL K H p ys ∧ ∀ l, H l = none → Q (.ref l) (upd H l (.tup ys))) ∨ (SqT K H p ys ∧ Q (.ref p) H))
theorem kcall_tuple : CallR X (.type "tuple") (rTupOf K) := by subst hK; exact call_tuple_of
theorem kcall_list : CallR X (.type "list") (rListS K) := by subst hK; exact call_list_of
theorem kcr_sortedS : CallR X (.builtin "sorted") (rSortedS K) := by subst hK; exact cr_sortedS
theorem kmt_extend : MtR X "list.extend" (rExtendA K) := by subst hK; exact mt_extendA
def rIsiT2 (K : PySem.W.Frag) : List V → Hp → VK → Prop := rIsiT K
theorem kcall_isiT : CallR X (.builtin "isinstance") (rIsiT2 K) := by subst hK; exact call_isiT
variable {e o a b : Expr} {te ta tb to : TE} {f : Str} {pos pos' apos cpos : Pos} {es : List Expr} {t : TA}
theorem kfld (he : PE X e ta) (hb : attributeBase e f X.env (eval e X.env) = eval e X.env) : PE X (.Attribute e f pos) (tFld K ta f) := by subst hK; exact pe_fld he hb
theorem kps_fld {value : Expr} {tv : TE} (ha : PE X o ta) (hv : PE X value tv) (hs : swapsWith value (some (.Attribute o f pos')) pos.line X.env = pure false) : PS X (.Assign [.Attribute o f pos'] value pos) (sFld K ta tv f) := by subst hK; exact ps_fld ha hv hs
theorem kpi_list {tg l : Expr} {tl : TE} (hl : PE X l tl) : PI X tg l (iList K tl) := by subst hK; exact pi_list hl
theorem kpi_tup {tg l : Expr} {tl : TE} (hl : PE X l tl) : PI X tg l (iTup K tl) := by subst hK; exact pi_tup hl
theorem kpg_tup {k n : Nat} {tt : TGs} (hc : X.calm = true) (h : PGs X es tt) (hn : (assignEach es X.env).length = n := by rfl) (hst : (assignEach es X.env).findIdx? (·.1) = none := by rfl) : PG X (.Tuple es k pos) (gTup K n tt) := by
  subst hK; exact pg_tup hc h hn hst
theorem kpg_unl {k n : Nat} {tt : TGs} (hc : X.calm = true) (h : PGs X es tt) (hn : (assignEach es X.env).length = n := by rfl) (hst : (assignEach es X.env).findIdx? (·.1) = none := by rfl) : PG X (.Tuple es k pos) (gUnl K n tt) := by
  subst hK; exact pg_unl hc h hn hst
def rJoin (K : PySem.W.Frag) : V → List V → Hp → VK → Prop := fun x xs H Q => ∃ a p, ∃ ys : List Str, x = .str a ∧ xs = [.ref p] ∧ (SqL K H p (ys.map V.str) ∨ SqT K H p (ys.map V.str)) ∧ (ys.map (·.length)).sum + ys.length * a.length ≤ 16777216 ∧ Q (.str (Txt.join a ys)) H
theorem kpe_join (ho : PE X o to) (he : PE X e te) (hs : starEach [e] X.env = [(false, eval e X.env)] := by rfl) (hbase : attributeBase o "join" X.env (eval o X.env) = eval o X.env := by rfl) (hline : (apos.endLine == pos.line) = true := by rfl) :
    PE X (.Call (.Attribute o "join" apos) [e] [] pos) (tM1 (rJoin K) to te) := by subst hK; exact pe_join ho he hs hbase hline
theorem kpe_revL {k : Nat} {p1 p2 p3 : Pos} (he : PE X e te) : PE X (.Subscript e (.Slice none none (some (.UnaryOp .USub (.Constant (.int 1) k p1) p2)) p3) pos) (tRevL K te) := by subst hK; exact pe_revL he
theorem kstar {p : Pos} (he : PE X e te) (hr : PA X es t) (hs : starEach (.Starred e p :: es) X.env = (true, eval e X.env) :: starEach es X.env := by rfl) : PA X (.Starred e p :: es) (StX.tStar K te t) := by subst hK; exact StX.pa_star he hr hs
theorem kmakeS1 {k : Nat} {f C : Addr} {sp : SP0} {x : Str} {p sp_ : Pos} (M : Mk X.K C f) (F : FRX X k f sp) (hr : Room (k + 1) X.A) (hg : Gl X x) (hm : X.mg x = some (.ref C)) (he : PE X e te) (hdb : (x == ("__debug__" : Str)) = false := by decide)
    (hst : starEach [.Starred e sp_] X.env = [(true, eval e X.env)] := by rfl) : PE X (.Call (.Name x p) [.Starred e sp_] [] pos) (tMakeS1 K C sp te) := by subst hK; exact pe_makeS1 M F hr hg hm he hdb hst
theorem kpi_enum {p tpos : Pos} {elts : List Expr} {kk : Nat} (hg : Gl X "enumerate") (hm : X.mg "enumerate" = none) (ha : PA X [e] t) (hs : starEach [e] X.env = [(false, eval e X.env)] := by rfl) :
    PI X (.Tuple elts kk tpos) (.Call (.Name "enumerate" p) [e] [] pos) (iEnum K t) := by subst hK; exact pi_enum hg hm ha hs
/-! methods of built-in types -/
variable {name : Str} {T id : String} {r : V → List V → Hp → VK → Prop}
theorem kpe_bm0 (pa : PlainAttrs T) (slot : Slot T name id) (hty : typeOf (.builtin id) = pure (.type "method_descriptor")) (hm : MtR X id r) (ho : PE X o to)
    (hbase : attributeBase o name X.env (eval o X.env) = eval o X.env := by rfl) (hline : (apos.endLine == cpos.line) = true := by rfl) : PE X (.Call (.Attribute o name apos) [] [] cpos) (tBM0 K T r to) := by subst hK; exact pe_bm0 pa slot hty hm ho hbase hline
theorem kpe_bm (pa : PlainAttrs T) (slot : Slot T name id) (hty : typeOf (.builtin id) = pure (.type "method_descriptor")) (hm : MtR X id r) (ho : PE X o to) (ha : PA X (e :: es) t)
    (hbase : attributeBase o name X.env (eval o X.env) = eval o X.env := by rfl)
    (hfew : ((backTo cpos (starEach (e :: es) X.env)).all (fun x => !x.1) && (backToKw cpos (keywordEach [] X.env)).all (fun x => x.1.isSome)
      && decide ((e :: es).length + ([] : List Keyword).length + (if ([] : List Keyword).isEmpty then 0 else 1) < 30)) = true := by rfl)
    (hline : (apos.endLine == cpos.line) = true := by rfl) (hs : starEach (e :: es) X.env = (false, eval e X.env) :: starEach es X.env := by rfl) (hplain : (backTo cpos (starEach es X.env)).any (·.1) = false := by rfl) :
    PE X (.Call (.Attribute o name apos) (e :: es) [] cpos) (tBM K T r to t) := by subst hK; exact pe_bm pa slot hty hm ho ha hbase hfew hline hs hplain
end
theorem b_len : bootBuiltins "len" = some (.builtin "len") := by decide +kernel
theorem b_isinstance : bootBuiltins "isinstance" = some (.builtin "isinstance") := by decide +kernel
theorem b_all : bootBuiltins "all" = some (.builtin "all") := by decide +kernel
theorem b_sum : bootBuiltins "sum" = some (.builtin "sum") := by decide +kernel
theorem b_sorted : bootBuiltins "sorted" = some (.builtin "sorted") := by decide +kernel
theorem b_abs : bootBuiltins "abs" = some (.builtin "abs") := by decide +kernel
theorem b_min : bootBuiltins "min" = some (.builtin "min") := by decide +kernel
theorem b_int : bootBuiltins "int" = some (.type "int") := by decide +kernel
theorem b_bool : bootBuiltins "bool" = some (.type "bool") := by decide +kernel
theorem b_str : bootBuiltins "str" = some (.type "str") := by decide +kernel
theorem b_tuple : bootBuiltins "tuple" = some (.type "tuple") := by decide +kernel
theorem b_list : bootBuiltins "list" = some (.type "list") := by decide +kernel
theorem b_dict : bootBuiltins "dict" = some (.type "dict") := by decide +kernel
end E97
/-! ### comprehensions that only add to the heap -/
namespace E97
open PySem PySem.Spec PyProof.Rows L2 Evl
/-- one turn: x goes in, F x comes out -/
def Turn (g : TG) (tt : TT) (te : TE) (vs : List Nat) (σ : L2.St) (H : Hp) (x : V) (r : Option V) : Prop :=
  ∀ H1, Ex H H1 → ∀ R : Option V → Hp → Prop, (∀ H2, Ex H1 H2 → R r H2) → g x (wipe σ vs) H1 fun σ2 H2 => wipe σ2 vs = wipe σ vs ∧ tt σ2 H2 fun b H3 => if b = true then te σ2 H3 (fun y H4 => R (some y) H4) else R none H3
theorem lc_turn {g : TG} {tt : TT} {te : TE} {vs : List Nat} {σ : L2.St} {H H1 H' : Hp} {x : V} {r : Option V} {D : Addr} {acc : List V} {Nx : Hp → Prop} (t : Turn g tt te vs σ H x r) (e : Ex H H1) (hD1 : H1 D = none) (e1 : Ex H1 H') (hD : H' D = some (.lst acc)) (hl : acc.length < sizeLine)
    (nx : ∀ H2, Ex H1 H2 → H2 D = some (.lst (acc ++ r.toList)) → Nx H2) (mono : True := trivial) :
    g x (wipe σ vs) H' fun σ2 H2 => wipe σ2 vs = wipe σ vs ∧ tt σ2 H2 fun b H3 => if b = true then te σ2 H3 fun y H4 => ∃ acc, H4 D = some (.lst acc) ∧ acc.length < sizeLine ∧ Nx (upd H4 D (.lst (acc ++ [y]))) else Nx H3 := by
  refine t H' (e.trans e1) (fun o H2 => match o with | some y => ∃ acc, H2 D = some (.lst acc) ∧ acc.length < sizeLine ∧ Nx (upd H2 D (.lst (acc ++ [y]))) | none => Nx H2) fun H2 e2 => ?_
  cases r with
  | some y => exact ⟨acc, e2 _ _ hD, hl, nx _ ((e1.trans e2).mut hD1) upd_same⟩
  | none => exact nx _ (e1.trans e2) (by rw [show acc ++ (none : Option V).toList = acc by simp]; exact e2 _ _ hD)
theorem take_rs {rs : List (Option V)} {i : Nat} {r : Option V} (h : rs[i]? = some r) : (rs.take (i + 1)).filterMap id = (rs.take i).filterMap id ++ r.toList := by
  rw [List.take_add_one, List.filterMap_append, h]
  cases r <;> rfl
theorem rs_len {rs : List (Option V)} {i : Nat} (h : rs.length ≤ 100000) : ((rs.take i).filterMap id).length < sizeLine := by
  have l1 : ((rs.take i).filterMap id).length ≤ (rs.take i).length := List.length_filterMap_le _ _
  rw [List.length_take] at l1
  exact Nat.lt_of_le_of_lt (show _ ≤ 100000 by omega) (by decide)
theorem get_of_len {α β : Type} {xs : List α} {ys : List β} {i : Nat} {x : α} (h : xs[i]? = some x) (e : ys.length = xs.length) : ∃ y, ys[i]? = some y := by
  have hi : i < xs.length := (List.getElem?_eq_some_iff.mp h).1
  exact ⟨ys[i]'(by omega), List.getElem?_eq_getElem _⟩
section
variable {K : PySem.W.Frag} {tl : TE} {g : TG} {tt : TT} {te : TE} {vs : List Nat} {σ : L2.St} {H : Hp} {a : Addr} {xs : List V}
theorem el_lcT (rs : List (Option V)) (h : Ev tl σ H (.ref a)) (hx : SqT K H a xs) (hz : xs.length ≤ 100000) (hl : rs.length = xs.length) (hs : ∀ (i : Nat) (x : V) (r : Option V), xs[i]? = some x → rs[i]? = some r → Turn g tt te vs σ H x r) :
    EvL (tLc (iTup K tl) g tt te vs) σ H (rs.filterMap id) := fun H1 e Q q => by
  refine h H1 e _ fun H2 e2 => ⟨a, rfl, ⟨xs, ex_t (e.trans e2) hx⟩, fun D hD => ?_⟩
  refine lc_tup (xs := xs) (fun i H' => Ex H2 H' ∧ H' D = some (.lst ((rs.take i).filterMap id))) ⟨Ex.new hD, upd_same⟩ (fun i H' _ p => ex_t ((e.trans e2).trans p.1) hx) (fun i x H' hi p => ?_) fun H' p => ?_
  · obtain ⟨r, hr⟩ := get_of_len hi hl
    exact lc_turn (hs i x r hi hr) (e.trans e2) hD p.1 p.2 (rs_len (by omega)) fun H3 e3 h3 => ⟨e3, by rw [take_rs hr]; exact h3⟩
  · have z := p.2
    rw [← hl, List.take_length] at z
    exact q D H' (fresh_back e2 hD) (e2.trans p.1) z
theorem el_lcLL (rs : List (Option V)) (h : Ev tl σ H (.ref a)) (hx : SqL K H a xs) (hz : xs.length ≤ 100000) (hl : rs.length = xs.length) (hs : ∀ (i : Nat) (x : V) (r : Option V), xs[i]? = some x → rs[i]? = some r → Turn g tt te vs σ H x r) :
    EvL (tLc (iList K tl) g tt te vs) σ H (rs.filterMap id) := fun H1 e Q q => by
  refine h H1 e _ fun H2 e2 => ⟨a, rfl, ⟨xs, ex_l (e.trans e2) hx⟩, fun D hD => ?_⟩
  refine lc_list (xs := xs) (fun i H' => Ex H2 H' ∧ H' D = some (.lst ((rs.take i).filterMap id))) ⟨Ex.new hD, upd_same⟩ (fun i H' _ p => ex_l ((e.trans e2).trans p.1) hx) (fun i x H' hi p => ?_) fun H' p => ?_
  · obtain ⟨r, hr⟩ := get_of_len hi hl
    exact lc_turn (hs i x r hi hr) (e.trans e2) hD p.1 p.2 (rs_len (by omega)) fun H3 e3 h3 => ⟨e3, by rw [take_rs hr]; exact h3⟩
  · have z := p.2
    rw [← hl, List.take_length] at z
    exact q D H' (fresh_back e2 hD) (e2.trans p.1) z
theorem fm_map {α : Type} (F : α → Option V) : ∀ xs : List α, (xs.map F).filterMap id = xs.filterMap F
  | [] => rfl
  | x :: r => by
    rw [List.map_cons, List.filterMap_cons, List.filterMap_cons, fm_map F r]
    cases F x <;> rfl
theorem fm_some : ∀ xs : List V, (xs.map some).filterMap id = xs
  | [] => rfl
  | x :: r => by
    rw [List.map_cons, List.filterMap_cons, fm_some r]
    rfl
/-- by a function of the item -/
theorem el_lcTF (F : V → Option V) (h : Ev tl σ H (.ref a)) (hx : SqT K H a xs) (hz : xs.length ≤ 100000) (hs : ∀ x ∈ xs, Turn g tt te vs σ H x (F x)) : EvL (tLc (iTup K tl) g tt te vs) σ H (xs.filterMap F) := by
  rw [← fm_map]
  refine el_lcT _ h hx hz (List.length_map _) fun i x r hi hr => ?_
  rw [List.getElem?_map, hi] at hr
  cases hr
  exact hs x (List.mem_of_getElem? hi)
theorem el_lcLF (F : V → Option V) (h : Ev tl σ H (.ref a)) (hx : SqL K H a xs) (hz : xs.length ≤ 100000) (hs : ∀ x ∈ xs, Turn g tt te vs σ H x (F x)) : EvL (tLc (iList K tl) g tt te vs) σ H (xs.filterMap F) := by
  rw [← fm_map]
  refine el_lcLL _ h hx hz (List.length_map _) fun i x r hi hr => ?_
  rw [List.getElem?_map, hi] at hr
  cases hr
  exact hs x (List.mem_of_getElem? hi)
theorem paired_get {α β : Type} {R : α → β → Prop} : ∀ {xs : List α} {ys : List β} {i : Nat} {x : α} {y : β}, Paired R xs ys → xs[i]? = some x → ys[i]? = some y → R x y
  | _, _, _, _, _, .nil, h, _ => by simp at h
  | _, _, 0, _, _, .cons r _, h1, h2 => by simp at h1 h2; subst h1 h2; exact r
  | _, _, i + 1, _, _, .cons _ t, h1, h2 => paired_get (i := i) t (by simpa using h1) (by simpa using h2)
theorem paired_len {α β : Type} {R : α → β → Prop} : ∀ {xs : List α} {ys : List β}, Paired R xs ys → xs.length = ys.length
  | _, _, .nil => rfl
  | _, _, .cons _ t => congrArg Nat.succ (paired_len t)
/-- each item gives one value -/
theorem el_lcTM {ys : List V} (h : Ev tl σ H (.ref a)) (hx : SqT K H a xs) (hz : xs.length ≤ 100000) (hs : Paired (fun x y => Turn g tt te vs σ H x (some y)) xs ys) : EvL (tLc (iTup K tl) g tt te vs) σ H ys := by
  have z := el_lcT (ys.map some) h hx hz (by rw [List.length_map, paired_len hs]) fun i x r hi hr => by
    rw [List.getElem?_map] at hr
    cases q : ys[i]? with
    | none => rw [q] at hr; cases hr
    | some y =>
      rw [q] at hr
      cases hr
      exact paired_get (R := fun x y => Turn g tt te vs σ H x (some y)) hs hi q
  rw [fm_some] at z
  exact z
theorem el_lcLM {ys : List V} (h : Ev tl σ H (.ref a)) (hx : SqL K H a xs) (hz : xs.length ≤ 100000) (hs : Paired (fun x y => Turn g tt te vs σ H x (some y)) xs ys) : EvL (tLc (iList K tl) g tt te vs) σ H ys := by
  have z := el_lcLL (ys.map some) h hx hz (by rw [List.length_map, paired_len hs]) fun i x r hi hr => by
    rw [List.getElem?_map] at hr
    cases q : ys[i]? with
    | none => rw [q] at hr; cases hr
    | some y =>
      rw [q] at hr
      cases hr
      exact paired_get (R := fun x y => Turn g tt te vs σ H x (some y)) hs hi q
  rw [fm_some] at z
  exact z
/-! the values of some more expressions -/
variable {ta : TE} {C dx : Addr} {fs : List (Str × V)} {f : Str} {v : V}
theorem ev_fld (h : Ev ta σ H (.ref a)) (ho : H a = some (.ins C dx fs)) (c : Cls K C) (n : NoAttr K C f) (l : fs.lookup f = some v) : Ev (tFld K ta f) σ H v := fun H1 e Q q =>
  h H1 e _ fun H2 e2 => ⟨a, C, dx, fs, v, rfl, (e.trans e2) _ _ ho, c, n, l, q H2 e2⟩
theorem ev_allN {bs : List Bool} (h : EvL te σ H (bs.map V.bl)) : Ev (tCB (rAll K) (tCons te tNil)) σ H (.bl (bs.all id)) := fun H1 e Q q => h H1 e _ fun p H2 _ e2 h2 => ⟨p, bs, rfl, sq_of h2, q H2 e2⟩
theorem ev_callF {sp : SP0} {ta : TA} {ws : List V} (h : EvA ta σ H ws) (hs : ∀ H1, Ex H H1 → ∀ Q : VK, (∀ H2, Ex H1 H2 → Q v H2) → sp ws H1 Q) : Ev (tCallF sp ta) σ H v := fun H1 e Q q => h H1 e _ fun H2 e2 => hs H2 (e.trans e2) Q fun H3 e3 => q H3 (e2.trans e3)
end
end E97
set_option Elab.async false
set_option linter.all false
set_option maxRecDepth 100000
set_option maxHeartbeats 4000000
/-! E97F: the text by places, the facts that the head tells. Printed by gen_facts.py. -/
namespace E97
open PySem PySem.Spec PyProof.Rows L2 Evl
def topS (i : Nat) : Stmt := PySem.Challenge.pw_everybase_k97_whole_measures_of_programs.main.body.getD i (.Pass ⟨0, 0, 0, 0⟩)
abbrev s_is_integer : Stmt := topS 14
abbrev s_is_number : Stmt := topS 15
abbrev s_is_name : Stmt := topS 17
abbrev s_are_given : Stmt := topS 22
abbrev s_is_deed : Stmt := topS 23
abbrev s_rows_of : Stmt := topS 24
abbrev s_flat_rows : Stmt := topS 25
abbrev s_lines_of : Stmt := topS 26
abbrev s_put_line : Stmt := topS 28
abbrev s_greater : Stmt := topS 43
abbrev s_capped : Stmt := topS 44
abbrev s_power : Stmt := topS 45
abbrev s_multiple_of : Stmt := topS 48
abbrev s_factor_apart : Stmt := topS 49
abbrev s_of_one : Stmt := topS 50
abbrev s_measures : Stmt := topS 51
abbrev s_number_in : Stmt := topS 87
abbrev s_arg_in : Stmt := topS 88
abbrev s_put_in : Stmt := topS 89
abbrev s_test_in : Stmt := topS 90
abbrev s_single_in : Stmt := topS 91
abbrev s_head_in : Stmt := topS 93
abbrev s_take_line : Stmt := topS 94
abbrev s_rows_in : Stmt := topS 95
abbrev s_law_deal : Stmt := topS 99
abbrev s_law_draw : Stmt := topS 100
abbrev s_law_pick : Stmt := topS 101
abbrev s_law_more : Stmt := topS 102
abbrev s_law_words : Stmt := topS 103
abbrev s_law_kinds : Stmt := topS 104
abbrev s_law_put : Stmt := topS 105
abbrev s_law_ask : Stmt := topS 106
abbrev s_law_count : Stmt := topS 107
abbrev s_law_rows : Stmt := topS 108
abbrev s_law_ask_text : Stmt := topS 109
abbrev s_law_lines : Stmt := topS 110
abbrev s_law_all_lines : Stmt := topS 111
abbrev s_law_program : Stmt := topS 112
abbrev s_law_power : Stmt := topS 113
abbrev s_law_rest_more : Stmt := topS 114
abbrev s_law_common_more : Stmt := topS 115
abbrev s_law_two_measured : Stmt := topS 116
abbrev s_law_measured : Stmt := topS 117
abbrev s_law_ask_period : Stmt := topS 118
abbrev s_law_set_in : Stmt := topS 119
abbrev s_law_branch : Stmt := topS 120
abbrev s_law_measure : Stmt := topS 121
abbrev s_law_measures : Stmt := topS 122
abbrev s_law_done : Stmt := topS 123
abbrev s_law_tame : Stmt := topS 124
abbrev s_law_short : Stmt := topS 127
abbrev s_law : Stmt := topS 128
abbrev s_Row_init : Stmt := inClass (topS 27) 0
abbrev s_Put_init : Stmt := inClass (topS 29) 0
abbrev s_Stop_init : Stmt := inClass (topS 30) 0
abbrev s_If_init : Stmt := inClass (topS 31) 0
abbrev s_Times_init : Stmt := inClass (topS 32) 0
abbrev s_Test_init : Stmt := inClass (topS 33) 0
abbrev s_Test_str : Stmt := inClass (topS 33) 2
abbrev s_Ask_init : Stmt := inClass (topS 34) 0
abbrev s_Not_init : Stmt := inClass (topS 35) 0
abbrev s_Measure_init : Stmt := inClass (topS 47) 0
abbrev s_Measure_told_of : Stmt := inClass (topS 47) 1
abbrev s_Measure_note : Stmt := inClass (topS 47) 2
abbrev s_Measure_times : Stmt := inClass (topS 47) 3
abbrev s_Measure_go : Stmt := inClass (topS 47) 4
abbrev s_Measure_branch : Stmt := inClass (topS 47) 5
abbrev s_Measure_look : Stmt := inClass (topS 47) 6
abbrev s_Measure_more_by : Stmt := inClass (topS 47) 7
abbrev s_Measure_measured : Stmt := inClass (topS 47) 8
abbrev s_Measure_of_two : Stmt := inClass (topS 47) 9
abbrev s_Block_init : Stmt := inClass (topS 92) 0
abbrev s_Block_can_turn : Stmt := inClass (topS 92) 1
abbrev s_Block_turn : Stmt := inClass (topS 92) 2
abbrev s_Block_made : Stmt := inClass (topS 92) 3
abbrev s_Program_init : Stmt := inClass (topS 97) 0
abbrev s_Program_read : Stmt := inClass (topS 97) 1
abbrev s_Program_len : Stmt := inClass (topS 97) 8
abbrev s_Program_add : Stmt := inClass (topS 97) 9
section
variable (K : PySem.W.Frag)
/-- the def behind a classmethod -/
def cmRec (C m : Str) : Addr := He.ma K (He.ga K C) m
def cmFn (C m : Str) : Addr := match PySem.W.recIn K (cmRec K C m) "classmethod" with
  | some (.ref g :: _) => g
  | _ => 0
abbrev a_is_integer : Addr := He.ga K "is_integer"
abbrev a_is_number : Addr := He.ga K "is_number"
abbrev a_is_name : Addr := He.ga K "is_name"
abbrev a_are_given : Addr := He.ga K "are_given"
abbrev a_is_deed : Addr := He.ga K "is_deed"
abbrev a_rows_of : Addr := He.ga K "rows_of"
abbrev a_flat_rows : Addr := He.ga K "flat_rows"
abbrev a_lines_of : Addr := He.ga K "lines_of"
abbrev a_put_line : Addr := He.ga K "put_line"
abbrev a_greater : Addr := He.ga K "greater"
abbrev a_capped : Addr := He.ga K "capped"
abbrev a_power : Addr := He.ga K "power_measures"
abbrev a_multiple_of : Addr := He.ga K "multiple_of"
abbrev a_factor_apart : Addr := He.ga K "factor_apart"
abbrev a_of_one : Addr := He.ga K "of_one"
abbrev a_measures : Addr := He.ga K "measures"
abbrev a_number_in : Addr := He.ga K "number_in"
abbrev a_arg_in : Addr := He.ga K "arg_in"
abbrev a_put_in : Addr := He.ga K "put_in"
abbrev a_test_in : Addr := He.ga K "test_in"
abbrev a_single_in : Addr := He.ga K "single_in"
abbrev a_head_in : Addr := He.ga K "head_in"
abbrev a_take_line : Addr := He.ga K "take_line"
abbrev a_rows_in : Addr := He.ga K "rows_in"
abbrev a_law_deal : Addr := He.ga K "_law_deal"
abbrev a_law_draw : Addr := He.ga K "_law_draw"
abbrev a_law_pick : Addr := He.ga K "_law_pick"
abbrev a_law_more : Addr := He.ga K "_law_more"
abbrev a_law_words : Addr := He.ga K "_law_words"
abbrev a_law_kinds : Addr := He.ga K "_law_kinds"
abbrev a_law_put : Addr := He.ga K "_law_put"
abbrev a_law_ask : Addr := He.ga K "_law_ask"
abbrev a_law_count : Addr := He.ga K "_law_count"
abbrev a_law_rows : Addr := He.ga K "_law_rows"
abbrev a_law_ask_text : Addr := He.ga K "_law_ask_text"
abbrev a_law_lines : Addr := He.ga K "_law_lines"
abbrev a_law_all_lines : Addr := He.ga K "_law_all_lines"
abbrev a_law_program : Addr := He.ga K "_law_program"
abbrev a_law_power : Addr := He.ga K "_law_power"
abbrev a_law_rest_more : Addr := He.ga K "_law_rest_more"
abbrev a_law_common_more : Addr := He.ga K "_law_common_more"
abbrev a_law_two_measured : Addr := He.ga K "_law_two_measured"
abbrev a_law_measured : Addr := He.ga K "_law_measured"
abbrev a_law_ask_period : Addr := He.ga K "_law_ask_period"
abbrev a_law_set_in : Addr := He.ga K "_law_set_in"
abbrev a_law_branch : Addr := He.ga K "_law_branch"
abbrev a_law_measure : Addr := He.ga K "_law_measure"
abbrev a_law_measures : Addr := He.ga K "_law_measures"
abbrev a_law_done : Addr := He.ga K "_law_done"
abbrev a_law_tame : Addr := He.ga K "_law_tame"
abbrev a_law_short : Addr := He.ga K "_law_short"
abbrev a_law : Addr := He.ga K "law"
abbrev a_Row_init : Addr := He.ma K (He.ga K "Row") "__init__"
abbrev a_Put_init : Addr := He.ma K (He.ga K "Put") "__init__"
abbrev a_Stop_init : Addr := He.ma K (He.ga K "Stop") "__init__"
abbrev a_If_init : Addr := He.ma K (He.ga K "If") "__init__"
abbrev a_Times_init : Addr := He.ma K (He.ga K "Times") "__init__"
abbrev a_Test_init : Addr := He.ma K (He.ga K "Test") "__init__"
abbrev a_Test_str : Addr := He.ma K (He.ga K "Test") "__str__"
abbrev a_Ask_init : Addr := He.ma K (He.ga K "Ask") "__init__"
abbrev a_Not_init : Addr := He.ma K (He.ga K "Not") "__init__"
abbrev a_Measure_init : Addr := He.ma K (He.ga K "Measure") "__init__"
abbrev a_Measure_told_of : Addr := He.ma K (He.ga K "Measure") "told_of"
abbrev a_Measure_note : Addr := He.ma K (He.ga K "Measure") "note"
abbrev a_Measure_times : Addr := He.ma K (He.ga K "Measure") "times"
abbrev a_Measure_go : Addr := He.ma K (He.ga K "Measure") "go"
abbrev a_Measure_branch : Addr := He.ma K (He.ga K "Measure") "branch"
abbrev a_Measure_look : Addr := He.ma K (He.ga K "Measure") "look"
abbrev a_Measure_more_by : Addr := He.ma K (He.ga K "Measure") "more_by"
abbrev a_Measure_measured : Addr := He.ma K (He.ga K "Measure") "measured"
abbrev a_Measure_of_two : Addr := He.ma K (He.ga K "Measure") "of_two"
abbrev a_Block_init : Addr := He.ma K (He.ga K "Block") "__init__"
abbrev a_Block_can_turn : Addr := He.ma K (He.ga K "Block") "can_turn"
abbrev a_Block_turn : Addr := He.ma K (He.ga K "Block") "turn"
abbrev a_Block_made : Addr := He.ma K (He.ga K "Block") "made"
abbrev a_Program_init : Addr := He.ma K (He.ga K "Program") "__init__"
abbrev a_Program_read : Addr := cmFn K "Program" "read"
abbrev a_Program_len : Addr := He.ma K (He.ga K "Program") "__len__"
abbrev a_Program_add : Addr := He.ma K (He.ga K "Program") "__add__"
abbrev C_Row : Addr := He.ga K "Row"
abbrev C_Put : Addr := He.ga K "Put"
abbrev C_Stop : Addr := He.ga K "Stop"
abbrev C_If : Addr := He.ga K "If"
abbrev C_Times : Addr := He.ga K "Times"
abbrev C_Test : Addr := He.ga K "Test"
abbrev C_Ask : Addr := He.ga K "Ask"
abbrev C_Not : Addr := He.ga K "Not"
abbrev C_Measure : Addr := He.ga K "Measure"
abbrev C_Block : Addr := He.ga K "Block"
abbrev C_Program : Addr := He.ga K "Program"
end
/-! ### a def, its closure's names told -/
structure D7 where
  adr : PySem.W.Frag → Addr
  name : Str
  qual : Str
  params : Arguments
  body : List Stmt
  scope : Scope
  dfl : List He.Dv
  kwd : List (Str × He.Dv)
  clo : List Str
abbrev FnW7 : Type := Option (Str × Str × Arguments × FuncBody × Scope × Addr × List Str × Addr)
def fnW7 (K : PySem.W.Frag) (a : Addr) : FnW7 := match K.lookup a with
  | some ⟨_, _, .func fd, _⟩ => some (fd.name, fd.qualname, fd.params, fd.body, fd.scope, fd.globals, fd.closure.map (·.1), fd.builtins)
  | _ => none
def D7.val (d : D7) : FnW7 := some (d.name, d.qual, d.params, .stmts d.body, d.scope, mainGlobals, d.clo, builtinsNs)
def D7.ok (K : PySem.W.Frag) (d : D7) : Bool := PySem.W.keepIn K (.ref (d.adr K)) && (match K.lookup (d.adr K) with
  | some ⟨_, _, .func fd, _⟩ => PySem.W.codeIn K fd.code d.qual && (He.dflB K fd.defaults (d.dfl.map (He.Dv.v K)) && He.kwdB K fd.kwdefaults (d.kwd.map fun q => (q.1, q.2.v K)))
  | _ => false)
/-- a def whose closure is its class's cell -/
structure FunX (K : PySem.W.Frag) (x qual : Str) (params : Arguments) (body : List Stmt) (scope : Scope) (dvs : List V) (cc : Addr) (f : Addr) (fd : FuncData) : Prop where
  ex : ∃ (oc : Value) (od : Option Addr) (dV kV doc pm : Value) (an : Option Addr) (cdv ct : Value) (osl : Array (Option Value)),
    fd = PySem.W.fnX x qual params body scope [("__class__", cc)] dV kV doc pm an cdv ct ∧ K.lookup f = some ⟨oc, od, .func fd, osl⟩ ∧ PySem.W.codeIn K cdv qual = true ∧ DflV K dV dvs
  kp : PySem.W.keepIn K (.ref f) = true
theorem D7.funD {K : PySem.W.Frag} {x q : Str} {pa : Arguments} {bd : List Stmt} {sc : Scope} {dl : List He.Dv} {kw : List (Str × He.Dv)} {ad : PySem.W.Frag → Addr} (e : fnW7 K (ad K) = D7.val ⟨ad, x, q, pa, bd, sc, dl, kw, []⟩)
    (c : D7.ok K ⟨ad, x, q, pa, bd, sc, dl, kw, []⟩ = true) : ∃ fd, FunD K x q pa bd sc (dl.map (He.Dv.v K)) (kw.map fun q => (q.1, q.2.v K)) (ad K) fd := by
  obtain ⟨kp, c2⟩ := He.ba c
  unfold fnW7 at e
  cases h : K.lookup (ad K) with
  | none =>
    rw [h] at e
    cases e
  | some o =>
    obtain ⟨oc, od, dt, osl⟩ := o
    dsimp only at c2
    rw [h] at c2 e
    cases dt with
    | func fd =>
      obtain ⟨n1, n2, n3, n4, n5, n6, n7, n8, n9, n10, n11, n12, n13, n14, n15⟩ := fd
      have e2 : (some (n1, n2, n3, n4, n5, n6, n7.map (·.1), n15) : FnW7) = some (x, q, pa, .stmts bd, sc, mainGlobals, [], builtinsNs) := e
      simp only [Option.some.injEq, Prod.mk.injEq, List.map_eq_nil_iff] at e2
      obtain ⟨h1, h2, h3, h4, h5, h6, h7, h8⟩ := e2
      subst h1 h2 h3 h4 h5 h6 h7 h8
      have c3 : (PySem.W.codeIn K n13 n2 && (He.dflB K n8 (dl.map (He.Dv.v K)) && He.kwdB K n9 (kw.map fun q => (q.1, q.2.v K)))) = true := c2
      obtain ⟨k1, k2⟩ := He.ba c3
      obtain ⟨k3, k4⟩ := He.ba k2
      exact ⟨_, ⟨oc, od, n8, n9, n10, n11, n12, n13, n14, osl, rfl, h, k1, He.dflB_ok k3, He.kwdB_ok k4⟩, kp⟩
    | _ => cases e
theorem D7.funX {K : PySem.W.Frag} {x q : Str} {pa : Arguments} {bd : List Stmt} {sc : Scope} {dl : List He.Dv} {kw : List (Str × He.Dv)} {ad : PySem.W.Frag → Addr} (e : fnW7 K (ad K) = D7.val ⟨ad, x, q, pa, bd, sc, dl, kw, ["__class__"]⟩)
    (c : D7.ok K ⟨ad, x, q, pa, bd, sc, dl, kw, ["__class__"]⟩ = true) : ∃ fd cc, FunX K x q pa bd sc (dl.map (He.Dv.v K)) cc (ad K) fd := by
  obtain ⟨kp, c2⟩ := He.ba c
  unfold fnW7 at e
  cases h : K.lookup (ad K) with
  | none =>
    rw [h] at e
    cases e
  | some o =>
    obtain ⟨oc, od, dt, osl⟩ := o
    dsimp only at c2
    rw [h] at c2 e
    cases dt with
    | func fd =>
      obtain ⟨n1, n2, n3, n4, n5, n6, n7, n8, n9, n10, n11, n12, n13, n14, n15⟩ := fd
      have e2 : (some (n1, n2, n3, n4, n5, n6, n7.map (·.1), n15) : FnW7) = (some (x, q, pa, FuncBody.stmts bd, sc, mainGlobals, ["__class__"], builtinsNs) : FnW7) := e
      simp only [Option.some.injEq, Prod.mk.injEq] at e2
      obtain ⟨h1, h2, h3, h4, h5, h6, h7, h8⟩ := e2
      obtain ⟨cc, e7⟩ : ∃ cc, n7 = [(("__class__" : Str), cc)] := by
        cases n7 with
        | nil => cases h7
        | cons a r =>
          cases r with
          | nil =>
            obtain ⟨a1, a2⟩ := a
            have e3 : a1 = "__class__" := (List.cons.inj h7).1
            exact ⟨a2, by rw [e3]⟩
          | cons b r2 => cases (List.cons.inj h7).2
      subst h1 h2 h3 h4 h5 h6 h8 e7
      have c3 : (PySem.W.codeIn K n13 n2 && (He.dflB K n8 (dl.map (He.Dv.v K)) && He.kwdB K n9 (kw.map fun q => (q.1, q.2.v K)))) = true := c2
      obtain ⟨k1, k2⟩ := He.ba c3
      obtain ⟨k3, k4⟩ := He.ba k2
      exact ⟨_, cc, ⟨oc, od, n8, n9, n10, n11, n12, n13, n14, osl, rfl, h, k1, He.dflB_ok k3⟩, kp⟩
    | _ => cases e
/-! ### single looks -/
/-- super() in C's __init__: the cell holds C, D's __init__ is next -/
def superB (K : PySem.W.Frag) (C D : Addr) : Bool := (match K.lookup (He.ma K C "__init__") with
  | some ⟨_, _, .func fd, _⟩ => (match fd.closure with
    | [(_, cc)] => (match K.lookup cc with
      | some ⟨_, _, .cell (some (.ref E)), _⟩ => E == C
      | _ => false)
    | _ => false) && (match fd.code with
    | .ref cda => (match K.lookup cda with
      | some ⟨_, _, .fields vs, _⟩ => (match (vs[2]? : Option Value) with
        | some (Value.str file _) => PySem.Challenge.pw_everybase_k97_whole_measures_of_programs.main.file == file
        | _ => false)
      | _ => false)
    | _ => false)
  | _ => false) && ((PySem.W.clsIn K C).isSome && (decide (PySem.W.mroIn K C (.ref C) = some true) && (He.eqO (PySem.W.ks_superIn K C C "__init__") (some (some (.ref (He.ma K D "__init__")))) && decide (PySem.W.typeIn K (.ref (He.ma K D "__init__")) = some (.type "function")))))
/-- what isinstance asks of an instance's class -/
def instB (K : PySem.W.Frag) (C : Addr) : Bool := He.eqO (PySem.W.findIn K (.ref C) "__class__") (some (some (.builtin "object.__class__"))) && (He.eqO (PySem.W.specialIn K (.builtin "object.__class__") "__get__") (some (some (.builtin "getset_descriptor.__get__"))) &&
  (decide (PySem.W.takesIn K (.builtin "object.__class__") = some true) && decide (PySem.W.mroIn K C (.type "object") = some true)))
def kitD (K : PySem.W.Frag) (C : Addr) (t : Value) (b : Bool) : Bool := decide (PySem.W.kitOne K (.ref C) t = some b)
def emptyB (K : PySem.W.Frag) (a : Addr) : Bool := match K.lookup a with
  | some ⟨.type c, _, .seq its _, _⟩ => decide (c = "tuple") && its.isEmpty
  | _ => false
def cmB (K : PySem.W.Frag) (C m : Str) : Bool := PySem.W.readsIn K (He.ga K C) (.type "type") && (He.eqO (PySem.W.specialIn K (.ref (He.ga K C)) "__getattribute__") (some (some (.builtin "type.__getattribute__"))) &&
  ((match PySem.W.findCls K (.ref (He.ga K C)) (.type "type") m with
  | some (.get (.builtin g) (.ref p) .none (.ref D)) => g == "classmethod.__get__" && (p == cmRec K C m && D == He.ga K C)
  | _ => false) && ((match PySem.W.recIn K (cmRec K C m) "classmethod" with
  | some (.ref _ :: _) => true
  | _ => false) && PySem.W.fnIn K (cmFn K C m))))
def specB (K : PySem.W.Frag) (C m : Str) : Bool := He.eqO (PySem.W.findIn K (.ref (He.ga K C)) m) (some (some (.ref (He.ma K (He.ga K C) m)))) && PySem.W.isFn K (.ref (He.ma K (He.ga K C) m))
def strB (K : PySem.W.Frag) (C : Str) : Bool := He.eqO (PySem.W.findIn K (.ref (He.ga K C)) "__str__") (some (some (.ref (He.ma K (He.ga K "Test") "__str__")))) && (PySem.W.isFn K (.ref (He.ma K (He.ga K "Test") "__str__")) &&
  He.eqO (PySem.W.findIn K (.ref (He.ga K C)) "__format__") (some (some (.builtin "object.__format__"))))

abbrev N_is_integer : List Str := ["value"]
theorem sc_is_integer : FnScope N_is_integer ["value"] (defScope s_is_integer) := ⟨rfl, rfl, rfl, by decide +kernel, rfl, by decide +kernel, by decide +kernel⟩
abbrev N_is_number : List Str := ["value"]
theorem sc_is_number : FnScope N_is_number ["value"] (defScope s_is_number) := ⟨rfl, rfl, rfl, by decide +kernel, rfl, by decide +kernel, by decide +kernel⟩
abbrev N_is_name : List Str := ["value", "sign"]
theorem sc_is_name : FnScope N_is_name ["value"] (defScope s_is_name) := ⟨rfl, rfl, rfl, by decide +kernel, rfl, by decide +kernel, by decide +kernel⟩
abbrev N_are_given : List Str := ["deed", "given", "kinds", "kind", "arg"]
theorem sc_are_given : FnScope N_are_given ["deed", "given"] (defScope s_are_given) := ⟨rfl, rfl, rfl, by decide +kernel, rfl, by decide +kernel, by decide +kernel⟩
abbrev N_is_deed : List Str := ["value"]
theorem sc_is_deed : FnScope N_is_deed ["value"] (defScope s_is_deed) := ⟨rfl, rfl, rfl, by decide +kernel, rfl, by decide +kernel, by decide +kernel⟩
abbrev N_rows_of : List Str := ["value", "row"]
theorem sc_rows_of : FnScope N_rows_of ["value"] (defScope s_rows_of) := ⟨rfl, rfl, rfl, by decide +kernel, rfl, by decide +kernel, by decide +kernel⟩
abbrev N_flat_rows : List Str := ["rows", "found", "row"]
theorem sc_flat_rows : FnScope N_flat_rows ["rows"] (defScope s_flat_rows) := ⟨rfl, rfl, rfl, by decide +kernel, rfl, by decide +kernel, by decide +kernel⟩
abbrev N_lines_of : List Str := ["rows", "found", "row"]
theorem sc_lines_of : FnScope N_lines_of ["rows"] (defScope s_lines_of) := ⟨rfl, rfl, rfl, by decide +kernel, rfl, by decide +kernel, by decide +kernel⟩
abbrev N_put_line : List Str := ["name", "deed", "given", "words", "told", "arg"]
theorem sc_put_line : FnScope N_put_line ["name", "deed", "given"] (defScope s_put_line) := ⟨rfl, rfl, rfl, by decide +kernel, rfl, by decide +kernel, by decide +kernel⟩
abbrev N_greater : List Str := ["one", "other"]
theorem sc_greater : FnScope N_greater ["one", "other"] (defScope s_greater) := ⟨rfl, rfl, rfl, by decide +kernel, rfl, by decide +kernel, by decide +kernel⟩
abbrev N_capped : List Str := ["number"]
theorem sc_capped : FnScope N_capped ["number"] (defScope s_capped) := ⟨rfl, rfl, rfl, by decide +kernel, rfl, by decide +kernel, by decide +kernel⟩
abbrev N_power : List Str := ["number", "times", "found", "turn"]
theorem sc_power : FnScope N_power ["number", "times"] (defScope s_power) := ⟨rfl, rfl, rfl, by decide +kernel, rfl, by decide +kernel, by decide +kernel⟩
abbrev N_multiple_of : List Str := ["number"]
theorem sc_multiple_of : FnScope N_multiple_of ["number"] (defScope s_multiple_of) := ⟨rfl, rfl, rfl, by decide +kernel, rfl, by decide +kernel, by decide +kernel⟩
abbrev N_factor_apart : List Str := ["one", "other", "number", "is_steady"]
theorem sc_factor_apart : FnScope N_factor_apart ["one", "other"] (defScope s_factor_apart) := ⟨rfl, rfl, rfl, by decide +kernel, rfl, by decide +kernel, by decide +kernel⟩
abbrev N_of_one : List Str := ["deed", "told", "n", "s"]
theorem sc_of_one : FnScope N_of_one ["deed", "told"] (defScope s_of_one) := ⟨rfl, rfl, rfl, by decide +kernel, rfl, by decide +kernel, by decide +kernel⟩
abbrev N_measures : List Str := ["program", "test", "found"]
theorem sc_measures : FnScope N_measures ["program", "test"] (defScope s_measures) := ⟨rfl, rfl, rfl, by decide +kernel, rfl, by decide +kernel, by decide +kernel⟩
abbrev N_number_in : List Str := ["word", "most", "sign"]
theorem sc_number_in : FnScope N_number_in ["word", "most"] (defScope s_number_in) := ⟨rfl, rfl, rfl, by decide +kernel, rfl, by decide +kernel, by decide +kernel⟩
abbrev N_arg_in : List Str := ["word", "found"]
theorem sc_arg_in : FnScope N_arg_in ["word"] (defScope s_arg_in) := ⟨rfl, rfl, rfl, by decide +kernel, rfl, by decide +kernel, by decide +kernel⟩
abbrev N_put_in : List Str := ["words", "told", "deed", "args", "given", "found", "word"]
theorem sc_put_in : FnScope N_put_in ["words"] (defScope s_put_in) := ⟨rfl, rfl, rfl, by decide +kernel, rfl, by decide +kernel, by decide +kernel⟩
abbrev N_test_in : List Str := ["words", "inner", "found"]
theorem sc_test_in : FnScope N_test_in ["words"] (defScope s_test_in) := ⟨rfl, rfl, rfl, by decide +kernel, rfl, by decide +kernel, by decide +kernel⟩
abbrev N_single_in : List Str := ["line", "words"]
theorem sc_single_in : FnScope N_single_in ["line"] (defScope s_single_in) := ⟨rfl, rfl, rfl, by decide +kernel, rfl, by decide +kernel, by decide +kernel⟩
abbrev N_head_in : List Str := ["line", "words"]
theorem sc_head_in : FnScope N_head_in ["line"] (defScope s_head_in) := ⟨rfl, rfl, rfl, by decide +kernel, rfl, by decide +kernel, by decide +kernel⟩
abbrev N_take_line : List Str := ["open_blocks", "line", "row", "words", "head"]
theorem sc_take_line : FnScope N_take_line ["open_blocks", "line"] (defScope s_take_line) := ⟨rfl, rfl, rfl, by decide +kernel, rfl, by decide +kernel, by decide +kernel⟩
abbrev N_rows_in : List Str := ["text", "lines", "open_blocks", "at", "line"]
theorem sc_rows_in : FnScope N_rows_in ["text"] (defScope s_rows_in) := ⟨rfl, rfl, rfl, by decide +kernel, rfl, by decide +kernel, by decide +kernel⟩
abbrev N_law_deal : List Str := ["_law_script", "_law_radix", "_law_cell", "_law_cells", "_law_seed"]
theorem sc_law_deal : FnScope N_law_deal ["_law_script", "_law_radix"] (defScope s_law_deal) := ⟨rfl, rfl, rfl, by decide +kernel, rfl, by decide +kernel, by decide +kernel⟩
abbrev N_law_draw : List Str := ["_law_deal_here", "_law_amount", "_law_digit"]
theorem sc_law_draw : FnScope N_law_draw ["_law_deal_here", "_law_amount"] (defScope s_law_draw) := ⟨rfl, rfl, rfl, by decide +kernel, rfl, by decide +kernel, by decide +kernel⟩
abbrev N_law_pick : List Str := ["_law_deal_here", "_law_some"]
theorem sc_law_pick : FnScope N_law_pick ["_law_deal_here", "_law_some"] (defScope s_law_pick) := ⟨rfl, rfl, rfl, by decide +kernel, rfl, by decide +kernel, by decide +kernel⟩
abbrev N_law_more : List Str := ["_law_one", "_law_other"]
theorem sc_law_more : FnScope N_law_more ["_law_one", "_law_other"] (defScope s_law_more) := ⟨rfl, rfl, rfl, by decide +kernel, rfl, by decide +kernel, by decide +kernel⟩
abbrev N_law_words : List Str := ["_law_deal_here", "_law_amount", "_law_letters", "_law_kept", "_law_found", "_law_k", "_law_word", "_law_at", "_law_one"]
theorem sc_law_words : FnScope N_law_words ["_law_deal_here", "_law_amount"] (defScope s_law_words) := ⟨rfl, rfl, rfl, by decide +kernel, rfl, by decide +kernel, by decide +kernel⟩
abbrev N_law_kinds : List Str := ["_law_found", "_law_deed"]
theorem sc_law_kinds : FnScope N_law_kinds [] (defScope s_law_kinds) := ⟨rfl, rfl, rfl, by decide +kernel, rfl, by decide +kernel, by decide +kernel⟩
abbrev N_law_put : List Str := ["_law_deal_here", "_law_names", "_law_most", "_law_kinds_here", "_law_deed", "_law_args", "_law_kind", "_law_number", "_law_k", "_law_one"]
theorem sc_law_put : FnScope N_law_put ["_law_deal_here", "_law_names", "_law_most"] (defScope s_law_put) := ⟨rfl, rfl, rfl, by decide +kernel, rfl, by decide +kernel, by decide +kernel⟩
abbrev N_law_ask : List Str := ["_law_deal_here", "_law_names", "_law_down", "_law_word", "_law_some", "_law_k"]
theorem sc_law_ask : FnScope N_law_ask ["_law_deal_here", "_law_names", "_law_down"] (defScope s_law_ask) := ⟨rfl, rfl, rfl, by decide +kernel, rfl, by decide +kernel, by decide +kernel⟩
abbrev N_law_count : List Str := ["_law_row", "_law_one"]
theorem sc_law_count : FnScope N_law_count ["_law_row"] (defScope s_law_count) := ⟨rfl, rfl, rfl, by decide +kernel, rfl, by decide +kernel, by decide +kernel⟩
abbrev N_law_rows : List Str := ["_law_deal_here", "_law_names", "_law_room", "_law_down", "_law_most", "_law_found", "_law_left", "_law_form", "_law_row", "_law_rows_here", "_law_rest", "_law_ask_here", "_law_one"]
theorem sc_law_rows : FnScope N_law_rows ["_law_deal_here", "_law_names", "_law_room", "_law_down", "_law_most"] (defScope s_law_rows) := ⟨rfl, rfl, rfl, by decide +kernel, rfl, by decide +kernel, by decide +kernel⟩
abbrev N_law_ask_text : List Str := ["_law_ask_here"]
theorem sc_law_ask_text : FnScope N_law_ask_text ["_law_ask_here"] (defScope s_law_ask_text) := ⟨rfl, rfl, rfl, by decide +kernel, rfl, by decide +kernel, by decide +kernel⟩
abbrev N_law_lines : List Str := ["_law_row", "_law_words_here", "_law_inner", "_law_arg"]
theorem sc_law_lines : FnScope N_law_lines ["_law_row"] (defScope s_law_lines) := ⟨rfl, rfl, rfl, by decide +kernel, rfl, by decide +kernel, by decide +kernel⟩
abbrev N_law_all_lines : List Str := ["_law_rows_here", "_law_found", "_law_row"]
theorem sc_law_all_lines : FnScope N_law_all_lines ["_law_rows_here"] (defScope s_law_all_lines) := ⟨rfl, rfl, rfl, by decide +kernel, rfl, by decide +kernel, by decide +kernel⟩
abbrev N_law_program : List Str := ["_law_rows_here"]
theorem sc_law_program : FnScope N_law_program ["_law_rows_here"] (defScope s_law_program) := ⟨rfl, rfl, rfl, by decide +kernel, rfl, by decide +kernel, by decide +kernel⟩
abbrev N_law_power : List Str := ["_law_number", "_law_times", "_law_found", "_law_turn"]
theorem sc_law_power : FnScope N_law_power ["_law_number", "_law_times"] (defScope s_law_power) := ⟨rfl, rfl, rfl, by decide +kernel, rfl, by decide +kernel, by decide +kernel⟩
abbrev N_law_rest_more : List Str := ["_law_one", "_law_other"]
theorem sc_law_rest_more : FnScope N_law_rest_more ["_law_one", "_law_other"] (defScope s_law_rest_more) := ⟨rfl, rfl, rfl, by decide +kernel, rfl, by decide +kernel, by decide +kernel⟩
abbrev N_law_common_more : List Str := ["_law_one", "_law_other", "_law_lone"]
theorem sc_law_common_more : FnScope N_law_common_more ["_law_one", "_law_other"] (defScope s_law_common_more) := ⟨rfl, rfl, rfl, by decide +kernel, rfl, by decide +kernel, by decide +kernel⟩
abbrev N_law_two_measured : List Str := ["_law_deed", "_law_one", "_law_other", "_law_whole", "_law_n", "_law_s", "_law_m", "_law_t", "_law_more_here"]
theorem sc_law_two_measured : FnScope N_law_two_measured ["_law_deed", "_law_one", "_law_other", "_law_whole"] (defScope s_law_two_measured) := ⟨rfl, rfl, rfl, by decide +kernel, rfl, by decide +kernel, by decide +kernel⟩
abbrev N_law_measured : List Str := ["_law_row", "_law_some", "_law_whole", "_law_deed", "_law_args", "_law_n", "_law_s", "_law_more_here"]
theorem sc_law_measured : FnScope N_law_measured ["_law_row", "_law_some", "_law_whole"] (defScope s_law_measured) := ⟨rfl, rfl, rfl, by decide +kernel, rfl, by decide +kernel, by decide +kernel⟩
abbrev N_law_ask_period : List Str := ["_law_ask_here", "_law_now", "_law_span", "_law_pair", "_law_name"]
theorem sc_law_ask_period : FnScope N_law_ask_period ["_law_ask_here", "_law_now", "_law_span"] (defScope s_law_ask_period) := ⟨rfl, rfl, rfl, by decide +kernel, rfl, by decide +kernel, by decide +kernel⟩
abbrev N_law_set_in : List Str := ["_law_rows_here", "_law_found", "_law_row"]
theorem sc_law_set_in : FnScope N_law_set_in ["_law_rows_here"] (defScope s_law_set_in) := ⟨rfl, rfl, rfl, by decide +kernel, rfl, by decide +kernel, by decide +kernel⟩
abbrev N_law_branch : List Str := ["_law_row", "_law_state", "_law_before", "_law_one", "_law_name", "_law_one_side", "_law_other_side", "_law_flags"]
theorem sc_law_branch : FnScope N_law_branch ["_law_row", "_law_state"] (defScope s_law_branch) := ⟨rfl, rfl, rfl, by decide +kernel, rfl, by decide +kernel, by decide +kernel⟩
abbrev N_law_measure : List Str := ["_law_rows_here", "_law_state", "_law_row", "_law_some", "_law_n", "_law_s", "_law_more_here", "_law_is_steady", "_law_cuts", "_law_is_straight", "_law_turn", "_law_arg", "_law_one"]
theorem sc_law_measure : FnScope N_law_measure ["_law_rows_here", "_law_state"] (defScope s_law_measure) := ⟨rfl, rfl, rfl, by decide +kernel, rfl, by decide +kernel, by decide +kernel⟩
abbrev N_law_measures : List Str := ["_law_rows_here", "_law_state"]
theorem sc_law_measures : FnScope N_law_measures ["_law_rows_here"] (defScope s_law_measures) := ⟨rfl, rfl, rfl, by decide +kernel, rfl, by decide +kernel, by decide +kernel⟩
abbrev N_law_done : List Str := ["_law_rows_here", "_law_found", "_law_row", "_law_here", "_law_one", "_law_other"]
theorem sc_law_done : FnScope N_law_done ["_law_rows_here"] (defScope s_law_done) := ⟨rfl, rfl, rfl, by decide +kernel, rfl, by decide +kernel, by decide +kernel⟩
abbrev N_law_tame : List Str := ["_law_rows_here", "_law_found", "_law_row", "_law_going"]
theorem sc_law_tame : FnScope N_law_tame ["_law_rows_here"] (defScope s_law_tame) := ⟨rfl, rfl, rfl, by decide +kernel, rfl, by decide +kernel, by decide +kernel⟩
abbrev N_law_short : List Str := ["_law_rows_here", "_law_found", "_law_row"]
theorem sc_law_short : FnScope N_law_short ["_law_rows_here"] (defScope s_law_short) := ⟨rfl, rfl, rfl, by decide +kernel, rfl, by decide +kernel, by decide +kernel⟩
abbrev N_law : List Str := ["_law_script", "_law_deal_here", "_law_turn", "_law_some", "_law_sides", "_law_one", "_law_other", "_law_x", "_law_y", "_law_here", "_law_both", "_law_ask_here", "_law_blocks", "_law_behind", "_law_k", "_law_side", "_law_form"]
theorem sc_law : FnScope N_law ["_law_script"] (defScope s_law) := ⟨rfl, rfl, rfl, by decide +kernel, rfl, by decide +kernel, by decide +kernel⟩
abbrev N_Row_init : List Str := ["self", "lines", "inner", "used"]
theorem sc_Row_init : FnScope N_Row_init ["self", "lines", "inner", "used"] (defScope s_Row_init) := ⟨rfl, rfl, rfl, by decide +kernel, rfl, by decide +kernel, by decide +kernel⟩
abbrev N_Test_init : List Str := ["self", "text", "used"]
theorem sc_Test_init : FnScope N_Test_init ["self", "text", "used"] (defScope s_Test_init) := ⟨rfl, rfl, rfl, by decide +kernel, rfl, by decide +kernel, by decide +kernel⟩
abbrev N_Test_str : List Str := ["self"]
theorem sc_Test_str : FnScope N_Test_str ["self"] (defScope s_Test_str) := ⟨rfl, rfl, rfl, by decide +kernel, rfl, by decide +kernel, by decide +kernel⟩
abbrev N_Measure_init : List Str := ["self"]
theorem sc_Measure_init : FnScope N_Measure_init ["self"] (defScope s_Measure_init) := ⟨rfl, rfl, rfl, by decide +kernel, rfl, by decide +kernel, by decide +kernel⟩
abbrev N_Measure_told_of : List Str := ["self", "name"]
theorem sc_Measure_told_of : FnScope N_Measure_told_of ["self", "name"] (defScope s_Measure_told_of) := ⟨rfl, rfl, rfl, by decide +kernel, rfl, by decide +kernel, by decide +kernel⟩
abbrev N_Measure_note : List Str := ["self", "row", "names", "told", "is_steady", "is_straight", "n", "s", "arg", "name", "one"]
theorem sc_Measure_note : FnScope N_Measure_note ["self", "row"] (defScope s_Measure_note) := ⟨rfl, rfl, rfl, by decide +kernel, rfl, by decide +kernel, by decide +kernel⟩
abbrev N_Measure_times : List Str := ["self", "factor"]
theorem sc_Measure_times : FnScope N_Measure_times ["self", "factor"] (defScope s_Measure_times) := ⟨rfl, rfl, rfl, by decide +kernel, rfl, by decide +kernel, by decide +kernel⟩
abbrev N_Measure_go : List Str := ["self", "rows", "row", "turn"]
theorem sc_Measure_go : FnScope N_Measure_go ["self", "rows"] (defScope s_Measure_go) := ⟨rfl, rfl, rfl, by decide +kernel, rfl, by decide +kernel, by decide +kernel⟩
abbrev N_Measure_branch : List Str := ["self", "row", "before", "one", "other", "turned", "name", "first", "second", "is_straight", "told", "inner"]
theorem sc_Measure_branch : FnScope N_Measure_branch ["self", "row"] (defScope s_Measure_branch) := ⟨rfl, rfl, rfl, by decide +kernel, rfl, by decide +kernel, by decide +kernel⟩
abbrev N_Measure_look : List Str := ["self", "test"]
theorem sc_Measure_look : FnScope N_Measure_look ["self", "test"] (defScope s_Measure_look) := ⟨rfl, rfl, rfl, by decide +kernel, rfl, by decide +kernel, by decide +kernel⟩
abbrev N_Measure_more_by : List Str := ["self", "one", "other", "n", "m", "t", "is_steady", "more"]
theorem sc_Measure_more_by : FnScope N_Measure_more_by ["self", "one", "other"] (defScope s_Measure_more_by) := ⟨rfl, rfl, rfl, by decide +kernel, rfl, by decide +kernel, by decide +kernel⟩
abbrev N_Measure_measured : List Str := ["self", "row", "told", "n", "s", "k"]
theorem sc_Measure_measured : FnScope N_Measure_measured ["self", "row", "told"] (defScope s_Measure_measured) := ⟨rfl, rfl, rfl, by decide +kernel, rfl, by decide +kernel, by decide +kernel⟩
abbrev N_Measure_of_two : List Str := ["self", "deed", "told", "n", "s", "m", "t", "more"]
theorem sc_Measure_of_two : FnScope N_Measure_of_two ["self", "deed", "told"] (defScope s_Measure_of_two) := ⟨rfl, rfl, rfl, by decide +kernel, rfl, by decide +kernel, by decide +kernel⟩
abbrev N_Block_init : List Str := ["self", "head"]
theorem sc_Block_init : FnScope N_Block_init ["self", "head"] (defScope s_Block_init) := ⟨rfl, rfl, rfl, by decide +kernel, rfl, by decide +kernel, by decide +kernel⟩
abbrev N_Block_can_turn : List Str := ["self"]
theorem sc_Block_can_turn : FnScope N_Block_can_turn ["self"] (defScope s_Block_can_turn) := ⟨rfl, rfl, rfl, by decide +kernel, rfl, by decide +kernel, by decide +kernel⟩
abbrev N_Block_turn : List Str := ["self"]
theorem sc_Block_turn : FnScope N_Block_turn ["self"] (defScope s_Block_turn) := ⟨rfl, rfl, rfl, by decide +kernel, rfl, by decide +kernel, by decide +kernel⟩
abbrev N_Block_made : List Str := ["self"]
theorem sc_Block_made : FnScope N_Block_made ["self"] (defScope s_Block_made) := ⟨rfl, rfl, rfl, by decide +kernel, rfl, by decide +kernel, by decide +kernel⟩
abbrev N_Program_init : List Str := ["self", "rows", "row", "name"]
theorem sc_Program_init : FnScope N_Program_init ["self", "rows"] (defScope s_Program_init) := ⟨rfl, rfl, rfl, by decide +kernel, rfl, by decide +kernel, by decide +kernel⟩
abbrev N_Program_read : List Str := ["cls", "text"]
theorem sc_Program_read : FnScope N_Program_read ["cls", "text"] (defScope s_Program_read) := ⟨rfl, rfl, rfl, by decide +kernel, rfl, by decide +kernel, by decide +kernel⟩
abbrev N_Program_len : List Str := ["self"]
theorem sc_Program_len : FnScope N_Program_len ["self"] (defScope s_Program_len) := ⟨rfl, rfl, rfl, by decide +kernel, rfl, by decide +kernel, by decide +kernel⟩
abbrev N_Program_add : List Str := ["self", "other"]
theorem sc_Program_add : FnScope N_Program_add ["self", "other"] (defScope s_Program_add) := ⟨rfl, rfl, rfl, by decide +kernel, rfl, by decide +kernel, by decide +kernel⟩
def fa : List He.Fa := [
  .glo "is_integer",
  .glo "is_number",
  .glo "is_name",
  .glo "are_given",
  .glo "is_deed",
  .glo "rows_of",
  .glo "flat_rows",
  .glo "lines_of",
  .glo "put_line",
  .glo "greater",
  .glo "capped",
  .glo "power_measures",
  .glo "multiple_of",
  .glo "factor_apart",
  .glo "of_one",
  .glo "measures",
  .glo "number_in",
  .glo "arg_in",
  .glo "put_in",
  .glo "test_in",
  .glo "single_in",
  .glo "head_in",
  .glo "take_line",
  .glo "rows_in",
  .glo "_law_deal",
  .glo "_law_draw",
  .glo "_law_pick",
  .glo "_law_more",
  .glo "_law_words",
  .glo "_law_kinds",
  .glo "_law_put",
  .glo "_law_ask",
  .glo "_law_count",
  .glo "_law_rows",
  .glo "_law_ask_text",
  .glo "_law_lines",
  .glo "_law_all_lines",
  .glo "_law_program",
  .glo "_law_power",
  .glo "_law_rest_more",
  .glo "_law_common_more",
  .glo "_law_two_measured",
  .glo "_law_measured",
  .glo "_law_ask_period",
  .glo "_law_set_in",
  .glo "_law_branch",
  .glo "_law_measure",
  .glo "_law_measures",
  .glo "_law_done",
  .glo "_law_tame",
  .glo "_law_short",
  .glo "law",
  .glo "Row",
  .glo "Put",
  .glo "Stop",
  .glo "If",
  .glo "Times",
  .glo "Test",
  .glo "Ask",
  .glo "Not",
  .glo "Measure",
  .glo "Block",
  .glo "Program",
  .glo "UNSTEADY",
  .glo "CROOKED",
  .glo "AT_FIRST",
  .glo "MULTIPLES",
  .glo "SIGNS",
  .glo "PLAIN",
  .glo "ASKED",
  .glo "InvalidRow",
  .free "len",
  .free "isinstance",
  .free "all",
  .free "sum",
  .free "sorted",
  .free "int",
  .free "bool",
  .free "str",
  .free "tuple",
  .free "list",
  .free "dict",
  .free "range",
  .free "zip",
  .free "enumerate",
  .free "abs",
  .free "min",
  .free "super",
  .int "MOST" 1000000,
  .int "BEYOND" 1000,
  .int "MOST_SIGNS" 4,
  .int "MOST_DIGITS" 9,
  .str "NAME_SIGNS" "abcdefghijklmnopqrstuvwxyz",
  .str "DIGITS" "0123456789",
  .cls "Row",
  .cls "Put",
  .cls "Stop",
  .cls "If",
  .cls "Times",
  .cls "Test",
  .cls "Ask",
  .cls "Not",
  .cls "Measure",
  .cls "Block",
  .cls "Program",
  .noat "Put" "lines",
  .noat "Put" "inner",
  .noat "Put" "used",
  .noat "Put" "name",
  .noat "Put" "deed",
  .noat "Put" "given",
  .noat "Stop" "lines",
  .noat "Stop" "inner",
  .noat "Stop" "used",
  .noat "If" "test",
  .noat "If" "rows",
  .noat "If" "others",
  .noat "If" "lines",
  .noat "If" "inner",
  .noat "If" "used",
  .noat "Times" "count",
  .noat "Times" "rows",
  .noat "Times" "lines",
  .noat "Times" "inner",
  .noat "Times" "used",
  .noat "Ask" "text",
  .noat "Ask" "used",
  .noat "Ask" "word",
  .noat "Ask" "names",
  .noat "Not" "text",
  .noat "Not" "used",
  .noat "Not" "test",
  .noat "Measure" "now",
  .noat "Measure" "period",
  .noat "Measure" "longest",
  .noat "Measure" "widest",
  .noat "Block" "head",
  .noat "Block" "rows",
  .noat "Block" "ahead",
  .noat "Program" "rows",
  .noat "Program" "flat",
  .noat "Program" "lines",
  .noat "Program" "names",
  .meth "Measure" "told_of",
  .meth "Measure" "note",
  .meth "Measure" "times",
  .meth "Measure" "go",
  .meth "Measure" "branch",
  .meth "Measure" "look",
  .meth "Measure" "more_by",
  .meth "Measure" "measured",
  .meth "Measure" "of_two",
  .meth "Block" "can_turn",
  .meth "Block" "turn",
  .meth "Block" "made",
  .mkr "Put",
  .mkr "Stop",
  .mkr "If",
  .mkr "Times",
  .mkr "Ask",
  .mkr "Not",
  .mkr "Measure",
  .mkr "Block",
  .mkr "Program"]
def dAll : List D7 := [
  ⟨fun K => a_is_integer K, "is_integer", "is_integer", defArgs s_is_integer, defBody s_is_integer, defScope s_is_integer, [], [], []⟩,
  ⟨fun K => a_is_number K, "is_number", "is_number", defArgs s_is_number, defBody s_is_number, defScope s_is_number, [], [], []⟩,
  ⟨fun K => a_is_name K, "is_name", "is_name", defArgs s_is_name, defBody s_is_name, defScope s_is_name, [], [], []⟩,
  ⟨fun K => a_are_given K, "are_given", "are_given", defArgs s_are_given, defBody s_are_given, defScope s_are_given, [], [], []⟩,
  ⟨fun K => a_is_deed K, "is_deed", "is_deed", defArgs s_is_deed, defBody s_is_deed, defScope s_is_deed, [], [], []⟩,
  ⟨fun K => a_rows_of K, "rows_of", "rows_of", defArgs s_rows_of, defBody s_rows_of, defScope s_rows_of, [], [], []⟩,
  ⟨fun K => a_flat_rows K, "flat_rows", "flat_rows", defArgs s_flat_rows, defBody s_flat_rows, defScope s_flat_rows, [], [], []⟩,
  ⟨fun K => a_lines_of K, "lines_of", "lines_of", defArgs s_lines_of, defBody s_lines_of, defScope s_lines_of, [], [], []⟩,
  ⟨fun K => a_put_line K, "put_line", "put_line", defArgs s_put_line, defBody s_put_line, defScope s_put_line, [], [], []⟩,
  ⟨fun K => a_greater K, "greater", "greater", defArgs s_greater, defBody s_greater, defScope s_greater, [], [], []⟩,
  ⟨fun K => a_capped K, "capped", "capped", defArgs s_capped, defBody s_capped, defScope s_capped, [], [], []⟩,
  ⟨fun K => a_power K, "power", "power", defArgs s_power, defBody s_power, defScope s_power, [], [], []⟩,
  ⟨fun K => a_multiple_of K, "multiple_of", "multiple_of", defArgs s_multiple_of, defBody s_multiple_of, defScope s_multiple_of, [], [], []⟩,
  ⟨fun K => a_factor_apart K, "factor_apart", "factor_apart", defArgs s_factor_apart, defBody s_factor_apart, defScope s_factor_apart, [], [], []⟩,
  ⟨fun K => a_of_one K, "of_one", "of_one", defArgs s_of_one, defBody s_of_one, defScope s_of_one, [], [], []⟩,
  ⟨fun K => a_measures K, "measures", "measures", defArgs s_measures, defBody s_measures, defScope s_measures, [], [("test", .non)], []⟩,
  ⟨fun K => a_number_in K, "number_in", "number_in", defArgs s_number_in, defBody s_number_in, defScope s_number_in, [], [("most", .int 9)], []⟩,
  ⟨fun K => a_arg_in K, "arg_in", "arg_in", defArgs s_arg_in, defBody s_arg_in, defScope s_arg_in, [], [], []⟩,
  ⟨fun K => a_put_in K, "put_in", "put_in", defArgs s_put_in, defBody s_put_in, defScope s_put_in, [], [], []⟩,
  ⟨fun K => a_test_in K, "test_in", "test_in", defArgs s_test_in, defBody s_test_in, defScope s_test_in, [], [], []⟩,
  ⟨fun K => a_single_in K, "single_in", "single_in", defArgs s_single_in, defBody s_single_in, defScope s_single_in, [], [], []⟩,
  ⟨fun K => a_head_in K, "head_in", "head_in", defArgs s_head_in, defBody s_head_in, defScope s_head_in, [], [], []⟩,
  ⟨fun K => a_take_line K, "take_line", "take_line", defArgs s_take_line, defBody s_take_line, defScope s_take_line, [], [], []⟩,
  ⟨fun K => a_rows_in K, "rows_in", "rows_in", defArgs s_rows_in, defBody s_rows_in, defScope s_rows_in, [], [], []⟩,
  ⟨fun K => a_law_deal K, "_law_deal", "_law_deal", defArgs s_law_deal, defBody s_law_deal, defScope s_law_deal, [], [], []⟩,
  ⟨fun K => a_law_draw K, "_law_draw", "_law_draw", defArgs s_law_draw, defBody s_law_draw, defScope s_law_draw, [], [], []⟩,
  ⟨fun K => a_law_pick K, "_law_pick", "_law_pick", defArgs s_law_pick, defBody s_law_pick, defScope s_law_pick, [], [], []⟩,
  ⟨fun K => a_law_more K, "_law_more", "_law_more", defArgs s_law_more, defBody s_law_more, defScope s_law_more, [], [], []⟩,
  ⟨fun K => a_law_words K, "_law_words", "_law_words", defArgs s_law_words, defBody s_law_words, defScope s_law_words, [], [], []⟩,
  ⟨fun K => a_law_kinds K, "_law_kinds", "_law_kinds", defArgs s_law_kinds, defBody s_law_kinds, defScope s_law_kinds, [], [], []⟩,
  ⟨fun K => a_law_put K, "_law_put", "_law_put", defArgs s_law_put, defBody s_law_put, defScope s_law_put, [], [], []⟩,
  ⟨fun K => a_law_ask K, "_law_ask", "_law_ask", defArgs s_law_ask, defBody s_law_ask, defScope s_law_ask, [], [], []⟩,
  ⟨fun K => a_law_count K, "_law_count", "_law_count", defArgs s_law_count, defBody s_law_count, defScope s_law_count, [], [], []⟩,
  ⟨fun K => a_law_rows K, "_law_rows", "_law_rows", defArgs s_law_rows, defBody s_law_rows, defScope s_law_rows, [], [], []⟩,
  ⟨fun K => a_law_ask_text K, "_law_ask_text", "_law_ask_text", defArgs s_law_ask_text, defBody s_law_ask_text, defScope s_law_ask_text, [], [], []⟩,
  ⟨fun K => a_law_lines K, "_law_lines", "_law_lines", defArgs s_law_lines, defBody s_law_lines, defScope s_law_lines, [], [], []⟩,
  ⟨fun K => a_law_all_lines K, "_law_all_lines", "_law_all_lines", defArgs s_law_all_lines, defBody s_law_all_lines, defScope s_law_all_lines, [], [], []⟩,
  ⟨fun K => a_law_program K, "_law_program", "_law_program", defArgs s_law_program, defBody s_law_program, defScope s_law_program, [], [], []⟩,
  ⟨fun K => a_law_power K, "_law_power", "_law_power", defArgs s_law_power, defBody s_law_power, defScope s_law_power, [], [], []⟩,
  ⟨fun K => a_law_rest_more K, "_law_rest_more", "_law_rest_more", defArgs s_law_rest_more, defBody s_law_rest_more, defScope s_law_rest_more, [], [], []⟩,
  ⟨fun K => a_law_common_more K, "_law_common_more", "_law_common_more", defArgs s_law_common_more, defBody s_law_common_more, defScope s_law_common_more, [], [], []⟩,
  ⟨fun K => a_law_two_measured K, "_law_two_measured", "_law_two_measured", defArgs s_law_two_measured, defBody s_law_two_measured, defScope s_law_two_measured, [], [], []⟩,
  ⟨fun K => a_law_measured K, "_law_measured", "_law_measured", defArgs s_law_measured, defBody s_law_measured, defScope s_law_measured, [], [], []⟩,
  ⟨fun K => a_law_ask_period K, "_law_ask_period", "_law_ask_period", defArgs s_law_ask_period, defBody s_law_ask_period, defScope s_law_ask_period, [], [], []⟩,
  ⟨fun K => a_law_set_in K, "_law_set_in", "_law_set_in", defArgs s_law_set_in, defBody s_law_set_in, defScope s_law_set_in, [], [], []⟩,
  ⟨fun K => a_law_branch K, "_law_branch", "_law_branch", defArgs s_law_branch, defBody s_law_branch, defScope s_law_branch, [], [], []⟩,
  ⟨fun K => a_law_measure K, "_law_measure", "_law_measure", defArgs s_law_measure, defBody s_law_measure, defScope s_law_measure, [], [], []⟩,
  ⟨fun K => a_law_measures K, "_law_measures", "_law_measures", defArgs s_law_measures, defBody s_law_measures, defScope s_law_measures, [], [], []⟩,
  ⟨fun K => a_law_done K, "_law_done", "_law_done", defArgs s_law_done, defBody s_law_done, defScope s_law_done, [], [], []⟩,
  ⟨fun K => a_law_tame K, "_law_tame", "_law_tame", defArgs s_law_tame, defBody s_law_tame, defScope s_law_tame, [], [], []⟩,
  ⟨fun K => a_law_short K, "_law_short", "_law_short", defArgs s_law_short, defBody s_law_short, defScope s_law_short, [], [], []⟩,
  ⟨fun K => a_law K, "law", "law", defArgs s_law, defBody s_law, defScope s_law, [], [], []⟩,
  ⟨fun K => a_Row_init K, "__init__", "Row.__init__", defArgs s_Row_init, defBody s_Row_init, defScope s_Row_init, [], [], []⟩,
  ⟨fun K => a_Put_init K, "__init__", "Put.__init__", defArgs s_Put_init, defBody s_Put_init, defScope s_Put_init, [], [], ["__class__"]⟩,
  ⟨fun K => a_Stop_init K, "__init__", "Stop.__init__", defArgs s_Stop_init, defBody s_Stop_init, defScope s_Stop_init, [], [], ["__class__"]⟩,
  ⟨fun K => a_If_init K, "__init__", "If.__init__", defArgs s_If_init, defBody s_If_init, defScope s_If_init, [.adr (He.dflAt ("If", some "__init__") 0)], [], ["__class__"]⟩,
  ⟨fun K => a_Times_init K, "__init__", "Times.__init__", defArgs s_Times_init, defBody s_Times_init, defScope s_Times_init, [], [], ["__class__"]⟩,
  ⟨fun K => a_Test_init K, "__init__", "Test.__init__", defArgs s_Test_init, defBody s_Test_init, defScope s_Test_init, [], [], []⟩,
  ⟨fun K => a_Test_str K, "__str__", "Test.__str__", defArgs s_Test_str, defBody s_Test_str, defScope s_Test_str, [], [], []⟩,
  ⟨fun K => a_Ask_init K, "__init__", "Ask.__init__", defArgs s_Ask_init, defBody s_Ask_init, defScope s_Ask_init, [], [], ["__class__"]⟩,
  ⟨fun K => a_Not_init K, "__init__", "Not.__init__", defArgs s_Not_init, defBody s_Not_init, defScope s_Not_init, [], [], ["__class__"]⟩,
  ⟨fun K => a_Measure_init K, "__init__", "Measure.__init__", defArgs s_Measure_init, defBody s_Measure_init, defScope s_Measure_init, [], [], []⟩,
  ⟨fun K => a_Measure_told_of K, "told_of", "Measure.told_of", defArgs s_Measure_told_of, defBody s_Measure_told_of, defScope s_Measure_told_of, [], [], []⟩,
  ⟨fun K => a_Measure_note K, "note", "Measure.note", defArgs s_Measure_note, defBody s_Measure_note, defScope s_Measure_note, [], [], []⟩,
  ⟨fun K => a_Measure_times K, "times", "Measure.times", defArgs s_Measure_times, defBody s_Measure_times, defScope s_Measure_times, [], [], []⟩,
  ⟨fun K => a_Measure_go K, "go", "Measure.go", defArgs s_Measure_go, defBody s_Measure_go, defScope s_Measure_go, [], [], []⟩,
  ⟨fun K => a_Measure_branch K, "branch", "Measure.branch", defArgs s_Measure_branch, defBody s_Measure_branch, defScope s_Measure_branch, [], [], []⟩,
  ⟨fun K => a_Measure_look K, "look", "Measure.look", defArgs s_Measure_look, defBody s_Measure_look, defScope s_Measure_look, [], [], []⟩,
  ⟨fun K => a_Measure_more_by K, "more_by", "Measure.more_by", defArgs s_Measure_more_by, defBody s_Measure_more_by, defScope s_Measure_more_by, [], [], []⟩,
  ⟨fun K => a_Measure_measured K, "measured", "Measure.measured", defArgs s_Measure_measured, defBody s_Measure_measured, defScope s_Measure_measured, [], [], []⟩,
  ⟨fun K => a_Measure_of_two K, "of_two", "Measure.of_two", defArgs s_Measure_of_two, defBody s_Measure_of_two, defScope s_Measure_of_two, [], [], []⟩,
  ⟨fun K => a_Block_init K, "__init__", "Block.__init__", defArgs s_Block_init, defBody s_Block_init, defScope s_Block_init, [], [], []⟩,
  ⟨fun K => a_Block_can_turn K, "can_turn", "Block.can_turn", defArgs s_Block_can_turn, defBody s_Block_can_turn, defScope s_Block_can_turn, [], [], []⟩,
  ⟨fun K => a_Block_turn K, "turn", "Block.turn", defArgs s_Block_turn, defBody s_Block_turn, defScope s_Block_turn, [], [], []⟩,
  ⟨fun K => a_Block_made K, "made", "Block.made", defArgs s_Block_made, defBody s_Block_made, defScope s_Block_made, [], [], []⟩,
  ⟨fun K => a_Program_init K, "__init__", "Program.__init__", defArgs s_Program_init, defBody s_Program_init, defScope s_Program_init, [.adr (He.dflAt ("Program", some "__init__") 0)], [], []⟩,
  ⟨fun K => a_Program_read K, "read", "Program.read", defArgs s_Program_read, defBody s_Program_read, defScope s_Program_read, [], [], []⟩,
  ⟨fun K => a_Program_len K, "__len__", "Program.__len__", defArgs s_Program_len, defBody s_Program_len, defScope s_Program_len, [], [], []⟩,
  ⟨fun K => a_Program_add K, "__add__", "Program.__add__", defArgs s_Program_add, defBody s_Program_add, defScope s_Program_add, [], [], []⟩]
def tabs : List He.Tab := [(fun K => He.ga K "SIGNS", ["+", "-", "*", "//", "**"]), (fun K => He.ga K "PLAIN", ["number", "base", "let", "turned", "least", "greatest", "sum", "many", "root", "figure", "first", "last", "joined", "common", "lesser", "rest"]), (fun K => He.ga K "ASKED", ["same", "less", "divides", "mirrored", "unlike"])]
def exL : List (PySem.W.Frag → Bool) := [
  fun K => He.tupB K "UNSTEADY" [.str "//", .str "rest", .str "common"],
  fun K => He.tupB K "CROOKED" [.str "turned", .str "least", .str "greatest", .str "first", .str "last"],
  fun K => He.tupB K "AT_FIRST" [.int 1, .int 1, .bl true, .bl true],
  fun K => He.tupB K "MULTIPLES" [.int 1, .int 1, .int 2, .int 6, .int 12, .int 60, .int 60],
  fun K => He.valsB K (He.ga K "SIGNS") [("+", .str "xy"), ("-", .str "xy"), ("*", .str "xy"), ("//", .str "xy"), ("**", .str "xk")],
  fun K => He.valsB K (He.ga K "PLAIN") [("number", .str "k"), ("base", .str ""), ("let", .str "x"), ("turned", .str "x"), ("least", .str "x"), ("greatest", .str "x"), ("sum", .str "x"), ("many", .str "x"), ("root", .str "x"), ("figure", .str "kx"), ("first", .str "kx"), ("last", .str "kx"), ("joined", .str "xy"), ("common", .str "xy"), ("lesser", .str "xy"), ("rest", .str "xy")],
  fun K => He.valsB K (He.ga K "ASKED") [("same", .int 2), ("less", .int 2), ("divides", .int 2), ("mirrored", .int 1), ("unlike", .int 1)],
  fun K => superB K (He.ga K "Put") (He.ga K "Row"),
  fun K => superB K (He.ga K "Stop") (He.ga K "Row"),
  fun K => superB K (He.ga K "If") (He.ga K "Row"),
  fun K => superB K (He.ga K "Times") (He.ga K "Row"),
  fun K => superB K (He.ga K "Ask") (He.ga K "Test"),
  fun K => superB K (He.ga K "Not") (He.ga K "Test"),
  fun K => instB K (He.ga K "Row"),
  fun K => instB K (He.ga K "Put"),
  fun K => instB K (He.ga K "Stop"),
  fun K => instB K (He.ga K "If"),
  fun K => instB K (He.ga K "Times"),
  fun K => instB K (He.ga K "Test"),
  fun K => instB K (He.ga K "Ask"),
  fun K => instB K (He.ga K "Not"),
  fun K => instB K (He.ga K "Measure"),
  fun K => instB K (He.ga K "Block"),
  fun K => instB K (He.ga K "Program"),
  fun K => kitD K (He.ga K "Put") (.ref (He.ga K "Row")) true,
  fun K => kitD K (He.ga K "Put") (.ref (He.ga K "Put")) true,
  fun K => kitD K (He.ga K "Put") (.ref (He.ga K "If")) false,
  fun K => kitD K (He.ga K "Put") (.ref (He.ga K "Times")) false,
  fun K => kitD K (He.ga K "Stop") (.ref (He.ga K "Row")) true,
  fun K => kitD K (He.ga K "Stop") (.ref (He.ga K "Put")) false,
  fun K => kitD K (He.ga K "Stop") (.ref (He.ga K "If")) false,
  fun K => kitD K (He.ga K "Stop") (.ref (He.ga K "Times")) false,
  fun K => kitD K (He.ga K "If") (.ref (He.ga K "Row")) true,
  fun K => kitD K (He.ga K "If") (.ref (He.ga K "Put")) false,
  fun K => kitD K (He.ga K "If") (.ref (He.ga K "If")) true,
  fun K => kitD K (He.ga K "If") (.ref (He.ga K "Times")) false,
  fun K => kitD K (He.ga K "Times") (.ref (He.ga K "Row")) true,
  fun K => kitD K (He.ga K "Times") (.ref (He.ga K "Put")) false,
  fun K => kitD K (He.ga K "Times") (.ref (He.ga K "If")) false,
  fun K => kitD K (He.ga K "Times") (.ref (He.ga K "Times")) true,
  fun K => kitD K (He.ga K "Ask") (.ref (He.ga K "Test")) true,
  fun K => kitD K (He.ga K "Ask") (.ref (He.ga K "Not")) false,
  fun K => kitD K (He.ga K "Ask") (.type "int") false,
  fun K => kitD K (He.ga K "Not") (.ref (He.ga K "Test")) true,
  fun K => kitD K (He.ga K "Not") (.ref (He.ga K "Not")) true,
  fun K => kitD K (He.ga K "Not") (.type "int") false,
  fun K => kitD K (He.ga K "Program") (.ref (He.ga K "Program")) true,
  fun K => cmB K "Program" "read",
  fun K => emptyB K (He.dflAt ("If", some "__init__") 0 K),
  fun K => emptyB K (He.dflAt ("Program", some "__init__") 0 K),
  fun K => PySem.W.selfFirst K (He.ga K "Program"),
  fun K => He.eqO (PySem.W.nsIn K PySem.cStatics "thirdparty.any") (some none),
  fun K => specB K "Program" "__len__",
  fun K => specB K "Program" "__add__",
  fun K => strB K "Ask",
  fun K => strB K "Not"]
-- END OF LISTS
/-! ### the Hook -/
/-- a def with what hangs on it -/
def fnAs (o : Obj) : List Addr := match o.data with
  | .func fd => He.refV fd.code ++ (fd.closure.map (·.2) ++ He.refV fd.defaults ++ He.refV fd.kwdefaults)
  | .fields vs => vs.toList.flatMap He.refV
  | .seq its _ => its.toList.flatMap He.refV
  | _ => []
def dictRefs (g : Addr → Option Obj) (a : Addr) : List Addr := match g a with
  | some ⟨_, _, .dict es _, _⟩ => es.toList.flatMap fun e => He.refV e.val
  | _ => []
def objAs (g : Addr → Option Obj) (a : Addr) : List Addr := match g a with
  | some o => fnAs o
  | none => []
/-- a class: its names' dict first -/
def clsNs (g : Addr → Option Obj) (a : Addr) : List Addr := match g a with
  | some ⟨_, _, .cls cd, _⟩ => [a, cd.ns]
  | _ => []
def clsFns (g : Addr → Option Obj) (a : Addr) : List Addr := match g a with
  | some ⟨_, _, .cls cd, _⟩ => dictRefs g cd.ns
  | _ => []
def asN (g : Addr → Option Obj) : List Addr :=
  match dictRefs g mainGlobals with
  | tops => match tops.flatMap (clsFns g) with
    | ms => mainGlobals :: PySem.cStatics :: (tops.flatMap (clsNs g) ++ (tops ++ (ms ++ (tops.flatMap (objAs g) ++ ms.flatMap (objAs g) ++ (ms.flatMap (objAs g)).flatMap (objAs g)))))
def frE (g : Addr → Option Obj) : PySem.W.Frag := He.frG g (asN g)
abbrev Al7 : Type := (Bool × List FnW7) × List (Option (List (Option (Str × Int))))
def obs7 (fa : List He.Fa) (ds : List D7) (ex : List (PySem.W.Frag → Bool)) (ts : List He.Tab) (K : PySem.W.Frag) : Al7 :=
  (((fa.all fun f => f.ok K) && ((ds.all fun d => d.ok K) && ex.all fun b => b K), ds.map fun d => fnW7 K (d.adr K)), ts.map fun t => He.dicW K (t.1 K))
def val7 (ds : List D7) (ts : List He.Tab) (w : World) : Al7 := ((true, ds.map D7.val), ts.map fun t => some (He.keysIn w.params t.2))
def Says7 (w : World) (K : PySem.W.Frag) : Prop := obs7 fa dAll exL tabs K = val7 dAll tabs w
def hook7 : PySem.W.Hook where
  α := Al7
  obs := fun s => obs7 fa dAll exL tabs (frE s.heap.get?)
  val := fun w => val7 dAll tabs w
  says := fun w h => ∃ K : PySem.W.Frag, K.In h ∧ Says7 w K
  of := fun _ _ e => ⟨_, He.frG_in, e⟩
  keeps := fun _ _ _ ⟨K, hK, c⟩ k => ⟨K, PySem.W.Frag.In.keeps hK k, c⟩
/-- what the whole proof leans on -/
structure Txt (w : World) (K : PySem.W.Frag) (mg : Str → Option Value) : Prop where
  says : Says7 w K
  glo : ∀ {x : Str}, (He.Fa.glo x).ok K = true → mg x = some (.ref (He.ga K x))
  free : ∀ {x : Str}, (He.Fa.free x).ok K = true → mg x = none
  int : ∀ {x : Str} {i : Int}, (He.Fa.int x i).ok K = true → ∃ t, mg x = some (.int i t)
  str : ∀ {x z : Str}, (He.Fa.str x z).ok K = true → ∃ t, mg x = some (.str z t)
theorem Txt.mk7 {w : World} {K : PySem.W.Frag} {mg : Str → Option Value} {h : Heap} (X : K.In h) (G : h.Ns mainGlobals mg) (c : Says7 w K) : Txt w K mg := ⟨c, He.glo_ok X G, He.free_ok X G, He.int_ok X G, He.str_ok X G⟩
section
variable {w : World} {K : PySem.W.Frag} {mg : Str → Option Value} (T : Txt w K mg)
include T
theorem Txt.all3 : (fa.all fun f => f.ok K) = true ∧ (dAll.all fun d => d.ok K) = true ∧ (exL.all fun b => b K) = true := by
  have c : ((fa.all fun f => f.ok K) && ((dAll.all fun d => d.ok K) && exL.all fun b => b K)) = true := congrArg (fun z : Al7 => z.1.1) T.says
  obtain ⟨c1, c2⟩ := He.ba c
  obtain ⟨c3, c4⟩ := He.ba c2
  exact ⟨c1, c3, c4⟩
theorem Txt.fact (i : Nat) {f : He.Fa} (h : fa[i]? = some f := by rfl) : f.ok K = true := List.all_eq_true.mp T.all3.1 f (List.mem_of_getElem? h)
theorem Txt.defB (i : Nat) {d : D7} (h : dAll[i]? = some d := by rfl) : d.ok K = true := List.all_eq_true.mp T.all3.2.1 d (List.mem_of_getElem? h)
theorem Txt.ex (i : Nat) {b : PySem.W.Frag → Bool} (h : exL[i]? = some b := by rfl) : b K = true := List.all_eq_true.mp T.all3.2.2 b (List.mem_of_getElem? h)
theorem Txt.defE (i : Nat) {d : D7} (h : dAll[i]? = some d := by rfl) : fnW7 K (d.adr K) = d.val := by
  have e : (dAll.map fun d => fnW7 K (d.adr K)) = dAll.map D7.val := congrArg (fun z : Al7 => z.1.2) T.says
  have e2 : (dAll.map fun d => fnW7 K (d.adr K))[i]? = (dAll.map D7.val)[i]? := by rw [e]
  rw [List.getElem?_map, List.getElem?_map, h] at e2
  exact Option.some.inj e2
theorem Txt.tab (i : Nat) {t : He.Tab} (h : tabs[i]? = some t := by rfl) : ∃ es n, KDict K w (t.1 K) es n ∧ es.toList.map He.keyOf = He.keysIn w.params t.2 := by
  have e : (tabs.map fun t => He.dicW K (t.1 K)) = tabs.map fun t => some (He.keysIn w.params t.2) := congrArg (fun z : Al7 => z.2) T.says
  have e2 : (tabs.map fun t => He.dicW K (t.1 K))[i]? = (tabs.map fun t => some (He.keysIn w.params t.2))[i]? := by rw [e]
  rw [List.getElem?_map, List.getElem?_map, h] at e2
  have e3 : He.dicW K (t.1 K) = some (He.keysIn w.params t.2) := Option.some.inj e2
  obtain ⟨es, n, D⟩ := He.dicW_ok e3
  refine ⟨es, n, D, ?_⟩
  unfold He.dicW at e3
  rw [D.at_] at e3
  dsimp only at e3
  split at e3
  · exact Option.some.inj e3
  · cases e3
end

section
variable {w : World} {K : PySem.W.Frag} {mg : Str → Option Value} (T : Txt w K mg)
include T
theorem Txt.g_is_integer : mg "is_integer" = some (.ref (He.ga K "is_integer")) := T.glo (T.fact 0)
theorem Txt.g_is_number : mg "is_number" = some (.ref (He.ga K "is_number")) := T.glo (T.fact 1)
theorem Txt.g_is_name : mg "is_name" = some (.ref (He.ga K "is_name")) := T.glo (T.fact 2)
theorem Txt.g_are_given : mg "are_given" = some (.ref (He.ga K "are_given")) := T.glo (T.fact 3)
theorem Txt.g_is_deed : mg "is_deed" = some (.ref (He.ga K "is_deed")) := T.glo (T.fact 4)
theorem Txt.g_rows_of : mg "rows_of" = some (.ref (He.ga K "rows_of")) := T.glo (T.fact 5)
theorem Txt.g_flat_rows : mg "flat_rows" = some (.ref (He.ga K "flat_rows")) := T.glo (T.fact 6)
theorem Txt.g_lines_of : mg "lines_of" = some (.ref (He.ga K "lines_of")) := T.glo (T.fact 7)
theorem Txt.g_put_line : mg "put_line" = some (.ref (He.ga K "put_line")) := T.glo (T.fact 8)
theorem Txt.g_greater : mg "greater" = some (.ref (He.ga K "greater")) := T.glo (T.fact 9)
theorem Txt.g_capped : mg "capped" = some (.ref (He.ga K "capped")) := T.glo (T.fact 10)
theorem Txt.g_power_measures : mg "power_measures" = some (.ref (He.ga K "power_measures")) := T.glo (T.fact 11)
theorem Txt.g_multiple_of : mg "multiple_of" = some (.ref (He.ga K "multiple_of")) := T.glo (T.fact 12)
theorem Txt.g_factor_apart : mg "factor_apart" = some (.ref (He.ga K "factor_apart")) := T.glo (T.fact 13)
theorem Txt.g_of_one : mg "of_one" = some (.ref (He.ga K "of_one")) := T.glo (T.fact 14)
theorem Txt.g_measures : mg "measures" = some (.ref (He.ga K "measures")) := T.glo (T.fact 15)
theorem Txt.g_number_in : mg "number_in" = some (.ref (He.ga K "number_in")) := T.glo (T.fact 16)
theorem Txt.g_arg_in : mg "arg_in" = some (.ref (He.ga K "arg_in")) := T.glo (T.fact 17)
theorem Txt.g_put_in : mg "put_in" = some (.ref (He.ga K "put_in")) := T.glo (T.fact 18)
theorem Txt.g_test_in : mg "test_in" = some (.ref (He.ga K "test_in")) := T.glo (T.fact 19)
theorem Txt.g_single_in : mg "single_in" = some (.ref (He.ga K "single_in")) := T.glo (T.fact 20)
theorem Txt.g_head_in : mg "head_in" = some (.ref (He.ga K "head_in")) := T.glo (T.fact 21)
theorem Txt.g_take_line : mg "take_line" = some (.ref (He.ga K "take_line")) := T.glo (T.fact 22)
theorem Txt.g_rows_in : mg "rows_in" = some (.ref (He.ga K "rows_in")) := T.glo (T.fact 23)
theorem Txt.g_law_deal : mg "_law_deal" = some (.ref (He.ga K "_law_deal")) := T.glo (T.fact 24)
theorem Txt.g_law_draw : mg "_law_draw" = some (.ref (He.ga K "_law_draw")) := T.glo (T.fact 25)
theorem Txt.g_law_pick : mg "_law_pick" = some (.ref (He.ga K "_law_pick")) := T.glo (T.fact 26)
theorem Txt.g_law_more : mg "_law_more" = some (.ref (He.ga K "_law_more")) := T.glo (T.fact 27)
theorem Txt.g_law_words : mg "_law_words" = some (.ref (He.ga K "_law_words")) := T.glo (T.fact 28)
theorem Txt.g_law_kinds : mg "_law_kinds" = some (.ref (He.ga K "_law_kinds")) := T.glo (T.fact 29)
theorem Txt.g_law_put : mg "_law_put" = some (.ref (He.ga K "_law_put")) := T.glo (T.fact 30)
theorem Txt.g_law_ask : mg "_law_ask" = some (.ref (He.ga K "_law_ask")) := T.glo (T.fact 31)
theorem Txt.g_law_count : mg "_law_count" = some (.ref (He.ga K "_law_count")) := T.glo (T.fact 32)
theorem Txt.g_law_rows : mg "_law_rows" = some (.ref (He.ga K "_law_rows")) := T.glo (T.fact 33)
theorem Txt.g_law_ask_text : mg "_law_ask_text" = some (.ref (He.ga K "_law_ask_text")) := T.glo (T.fact 34)
theorem Txt.g_law_lines : mg "_law_lines" = some (.ref (He.ga K "_law_lines")) := T.glo (T.fact 35)
theorem Txt.g_law_all_lines : mg "_law_all_lines" = some (.ref (He.ga K "_law_all_lines")) := T.glo (T.fact 36)
theorem Txt.g_law_program : mg "_law_program" = some (.ref (He.ga K "_law_program")) := T.glo (T.fact 37)
theorem Txt.g_law_power : mg "_law_power" = some (.ref (He.ga K "_law_power")) := T.glo (T.fact 38)
theorem Txt.g_law_rest_more : mg "_law_rest_more" = some (.ref (He.ga K "_law_rest_more")) := T.glo (T.fact 39)
theorem Txt.g_law_common_more : mg "_law_common_more" = some (.ref (He.ga K "_law_common_more")) := T.glo (T.fact 40)
theorem Txt.g_law_two_measured : mg "_law_two_measured" = some (.ref (He.ga K "_law_two_measured")) := T.glo (T.fact 41)
theorem Txt.g_law_measured : mg "_law_measured" = some (.ref (He.ga K "_law_measured")) := T.glo (T.fact 42)
theorem Txt.g_law_ask_period : mg "_law_ask_period" = some (.ref (He.ga K "_law_ask_period")) := T.glo (T.fact 43)
theorem Txt.g_law_set_in : mg "_law_set_in" = some (.ref (He.ga K "_law_set_in")) := T.glo (T.fact 44)
theorem Txt.g_law_branch : mg "_law_branch" = some (.ref (He.ga K "_law_branch")) := T.glo (T.fact 45)
theorem Txt.g_law_measure : mg "_law_measure" = some (.ref (He.ga K "_law_measure")) := T.glo (T.fact 46)
theorem Txt.g_law_measures : mg "_law_measures" = some (.ref (He.ga K "_law_measures")) := T.glo (T.fact 47)
theorem Txt.g_law_done : mg "_law_done" = some (.ref (He.ga K "_law_done")) := T.glo (T.fact 48)
theorem Txt.g_law_tame : mg "_law_tame" = some (.ref (He.ga K "_law_tame")) := T.glo (T.fact 49)
theorem Txt.g_law_short : mg "_law_short" = some (.ref (He.ga K "_law_short")) := T.glo (T.fact 50)
theorem Txt.g_law : mg "law" = some (.ref (He.ga K "law")) := T.glo (T.fact 51)
theorem Txt.g_Row : mg "Row" = some (.ref (He.ga K "Row")) := T.glo (T.fact 52)
theorem Txt.g_Put : mg "Put" = some (.ref (He.ga K "Put")) := T.glo (T.fact 53)
theorem Txt.g_Stop : mg "Stop" = some (.ref (He.ga K "Stop")) := T.glo (T.fact 54)
theorem Txt.g_If : mg "If" = some (.ref (He.ga K "If")) := T.glo (T.fact 55)
theorem Txt.g_Times : mg "Times" = some (.ref (He.ga K "Times")) := T.glo (T.fact 56)
theorem Txt.g_Test : mg "Test" = some (.ref (He.ga K "Test")) := T.glo (T.fact 57)
theorem Txt.g_Ask : mg "Ask" = some (.ref (He.ga K "Ask")) := T.glo (T.fact 58)
theorem Txt.g_Not : mg "Not" = some (.ref (He.ga K "Not")) := T.glo (T.fact 59)
theorem Txt.g_Measure : mg "Measure" = some (.ref (He.ga K "Measure")) := T.glo (T.fact 60)
theorem Txt.g_Block : mg "Block" = some (.ref (He.ga K "Block")) := T.glo (T.fact 61)
theorem Txt.g_Program : mg "Program" = some (.ref (He.ga K "Program")) := T.glo (T.fact 62)
theorem Txt.g_UNSTEADY : mg "UNSTEADY" = some (.ref (He.ga K "UNSTEADY")) := T.glo (T.fact 63)
theorem Txt.g_CROOKED : mg "CROOKED" = some (.ref (He.ga K "CROOKED")) := T.glo (T.fact 64)
theorem Txt.g_AT_FIRST : mg "AT_FIRST" = some (.ref (He.ga K "AT_FIRST")) := T.glo (T.fact 65)
theorem Txt.g_MULTIPLES : mg "MULTIPLES" = some (.ref (He.ga K "MULTIPLES")) := T.glo (T.fact 66)
theorem Txt.g_SIGNS : mg "SIGNS" = some (.ref (He.ga K "SIGNS")) := T.glo (T.fact 67)
theorem Txt.g_PLAIN : mg "PLAIN" = some (.ref (He.ga K "PLAIN")) := T.glo (T.fact 68)
theorem Txt.g_ASKED : mg "ASKED" = some (.ref (He.ga K "ASKED")) := T.glo (T.fact 69)
theorem Txt.g_InvalidRow : mg "InvalidRow" = some (.ref (He.ga K "InvalidRow")) := T.glo (T.fact 70)
theorem Txt.z_len : mg "len" = none := T.free (T.fact 71)
theorem Txt.z_isinstance : mg "isinstance" = none := T.free (T.fact 72)
theorem Txt.z_all : mg "all" = none := T.free (T.fact 73)
theorem Txt.z_sum : mg "sum" = none := T.free (T.fact 74)
theorem Txt.z_sorted : mg "sorted" = none := T.free (T.fact 75)
theorem Txt.z_int : mg "int" = none := T.free (T.fact 76)
theorem Txt.z_bool : mg "bool" = none := T.free (T.fact 77)
theorem Txt.z_str : mg "str" = none := T.free (T.fact 78)
theorem Txt.z_tuple : mg "tuple" = none := T.free (T.fact 79)
theorem Txt.z_list : mg "list" = none := T.free (T.fact 80)
theorem Txt.z_dict : mg "dict" = none := T.free (T.fact 81)
theorem Txt.z_range : mg "range" = none := T.free (T.fact 82)
theorem Txt.z_zip : mg "zip" = none := T.free (T.fact 83)
theorem Txt.z_enumerate : mg "enumerate" = none := T.free (T.fact 84)
theorem Txt.z_abs : mg "abs" = none := T.free (T.fact 85)
theorem Txt.z_min : mg "min" = none := T.free (T.fact 86)
theorem Txt.z_super : mg "super" = none := T.free (T.fact 87)
theorem Txt.i_MOST : ∃ t, mg "MOST" = some (.int 1000000 t) := T.int (T.fact 88)
theorem Txt.i_BEYOND : ∃ t, mg "BEYOND" = some (.int 1000 t) := T.int (T.fact 89)
theorem Txt.i_MOST_SIGNS : ∃ t, mg "MOST_SIGNS" = some (.int 4 t) := T.int (T.fact 90)
theorem Txt.i_MOST_DIGITS : ∃ t, mg "MOST_DIGITS" = some (.int 9 t) := T.int (T.fact 91)
theorem Txt.t_NAME_SIGNS : ∃ t, mg "NAME_SIGNS" = some (.str "abcdefghijklmnopqrstuvwxyz" t) := T.str (T.fact 92)
theorem Txt.t_DIGITS : ∃ t, mg "DIGITS" = some (.str "0123456789" t) := T.str (T.fact 93)
theorem Txt.c_Row : Cls K (C_Row K) := He.cls_ok (T.fact 94)
theorem Txt.c_Put : Cls K (C_Put K) := He.cls_ok (T.fact 95)
theorem Txt.c_Stop : Cls K (C_Stop K) := He.cls_ok (T.fact 96)
theorem Txt.c_If : Cls K (C_If K) := He.cls_ok (T.fact 97)
theorem Txt.c_Times : Cls K (C_Times K) := He.cls_ok (T.fact 98)
theorem Txt.c_Test : Cls K (C_Test K) := He.cls_ok (T.fact 99)
theorem Txt.c_Ask : Cls K (C_Ask K) := He.cls_ok (T.fact 100)
theorem Txt.c_Not : Cls K (C_Not K) := He.cls_ok (T.fact 101)
theorem Txt.c_Measure : Cls K (C_Measure K) := He.cls_ok (T.fact 102)
theorem Txt.c_Block : Cls K (C_Block K) := He.cls_ok (T.fact 103)
theorem Txt.c_Program : Cls K (C_Program K) := He.cls_ok (T.fact 104)
theorem Txt.n_Put_lines : NoAttr K (C_Put K) "lines" := He.noat_ok (T.fact 105)
theorem Txt.n_Put_inner : NoAttr K (C_Put K) "inner" := He.noat_ok (T.fact 106)
theorem Txt.n_Put_used : NoAttr K (C_Put K) "used" := He.noat_ok (T.fact 107)
theorem Txt.n_Put_name : NoAttr K (C_Put K) "name" := He.noat_ok (T.fact 108)
theorem Txt.n_Put_deed : NoAttr K (C_Put K) "deed" := He.noat_ok (T.fact 109)
theorem Txt.n_Put_given : NoAttr K (C_Put K) "given" := He.noat_ok (T.fact 110)
theorem Txt.n_Stop_lines : NoAttr K (C_Stop K) "lines" := He.noat_ok (T.fact 111)
theorem Txt.n_Stop_inner : NoAttr K (C_Stop K) "inner" := He.noat_ok (T.fact 112)
theorem Txt.n_Stop_used : NoAttr K (C_Stop K) "used" := He.noat_ok (T.fact 113)
theorem Txt.n_If_test : NoAttr K (C_If K) "test" := He.noat_ok (T.fact 114)
theorem Txt.n_If_rows : NoAttr K (C_If K) "rows" := He.noat_ok (T.fact 115)
theorem Txt.n_If_others : NoAttr K (C_If K) "others" := He.noat_ok (T.fact 116)
theorem Txt.n_If_lines : NoAttr K (C_If K) "lines" := He.noat_ok (T.fact 117)
theorem Txt.n_If_inner : NoAttr K (C_If K) "inner" := He.noat_ok (T.fact 118)
theorem Txt.n_If_used : NoAttr K (C_If K) "used" := He.noat_ok (T.fact 119)
theorem Txt.n_Times_count : NoAttr K (C_Times K) "count" := He.noat_ok (T.fact 120)
theorem Txt.n_Times_rows : NoAttr K (C_Times K) "rows" := He.noat_ok (T.fact 121)
theorem Txt.n_Times_lines : NoAttr K (C_Times K) "lines" := He.noat_ok (T.fact 122)
theorem Txt.n_Times_inner : NoAttr K (C_Times K) "inner" := He.noat_ok (T.fact 123)
theorem Txt.n_Times_used : NoAttr K (C_Times K) "used" := He.noat_ok (T.fact 124)
theorem Txt.n_Ask_text : NoAttr K (C_Ask K) "text" := He.noat_ok (T.fact 125)
theorem Txt.n_Ask_used : NoAttr K (C_Ask K) "used" := He.noat_ok (T.fact 126)
theorem Txt.n_Ask_word : NoAttr K (C_Ask K) "word" := He.noat_ok (T.fact 127)
theorem Txt.n_Ask_names : NoAttr K (C_Ask K) "names" := He.noat_ok (T.fact 128)
theorem Txt.n_Not_text : NoAttr K (C_Not K) "text" := He.noat_ok (T.fact 129)
theorem Txt.n_Not_used : NoAttr K (C_Not K) "used" := He.noat_ok (T.fact 130)
theorem Txt.n_Not_test : NoAttr K (C_Not K) "test" := He.noat_ok (T.fact 131)
theorem Txt.n_Measure_now : NoAttr K (C_Measure K) "now" := He.noat_ok (T.fact 132)
theorem Txt.n_Measure_period : NoAttr K (C_Measure K) "period" := He.noat_ok (T.fact 133)
theorem Txt.n_Measure_longest : NoAttr K (C_Measure K) "longest" := He.noat_ok (T.fact 134)
theorem Txt.n_Measure_widest : NoAttr K (C_Measure K) "widest" := He.noat_ok (T.fact 135)
theorem Txt.n_Block_head : NoAttr K (C_Block K) "head" := He.noat_ok (T.fact 136)
theorem Txt.n_Block_rows : NoAttr K (C_Block K) "rows" := He.noat_ok (T.fact 137)
theorem Txt.n_Block_ahead : NoAttr K (C_Block K) "ahead" := He.noat_ok (T.fact 138)
theorem Txt.n_Program_rows : NoAttr K (C_Program K) "rows" := He.noat_ok (T.fact 139)
theorem Txt.n_Program_flat : NoAttr K (C_Program K) "flat" := He.noat_ok (T.fact 140)
theorem Txt.n_Program_lines : NoAttr K (C_Program K) "lines" := He.noat_ok (T.fact 141)
theorem Txt.n_Program_names : NoAttr K (C_Program K) "names" := He.noat_ok (T.fact 142)
theorem Txt.m_Measure_told_of : Meth K (C_Measure K) "told_of" (a_Measure_told_of K) := He.meth_ok (T.fact 143)
theorem Txt.m_Measure_note : Meth K (C_Measure K) "note" (a_Measure_note K) := He.meth_ok (T.fact 144)
theorem Txt.m_Measure_times : Meth K (C_Measure K) "times" (a_Measure_times K) := He.meth_ok (T.fact 145)
theorem Txt.m_Measure_go : Meth K (C_Measure K) "go" (a_Measure_go K) := He.meth_ok (T.fact 146)
theorem Txt.m_Measure_branch : Meth K (C_Measure K) "branch" (a_Measure_branch K) := He.meth_ok (T.fact 147)
theorem Txt.m_Measure_look : Meth K (C_Measure K) "look" (a_Measure_look K) := He.meth_ok (T.fact 148)
theorem Txt.m_Measure_more_by : Meth K (C_Measure K) "more_by" (a_Measure_more_by K) := He.meth_ok (T.fact 149)
theorem Txt.m_Measure_measured : Meth K (C_Measure K) "measured" (a_Measure_measured K) := He.meth_ok (T.fact 150)
theorem Txt.m_Measure_of_two : Meth K (C_Measure K) "of_two" (a_Measure_of_two K) := He.meth_ok (T.fact 151)
theorem Txt.m_Block_can_turn : Meth K (C_Block K) "can_turn" (a_Block_can_turn K) := He.meth_ok (T.fact 152)
theorem Txt.m_Block_turn : Meth K (C_Block K) "turn" (a_Block_turn K) := He.meth_ok (T.fact 153)
theorem Txt.m_Block_made : Meth K (C_Block K) "made" (a_Block_made K) := He.meth_ok (T.fact 154)
theorem Txt.k_Put : Mk K (C_Put K) (He.ma K (C_Put K) "__init__") := He.mkr_ok (T.fact 155)
theorem Txt.k_Stop : Mk K (C_Stop K) (He.ma K (C_Stop K) "__init__") := He.mkr_ok (T.fact 156)
theorem Txt.k_If : Mk K (C_If K) (He.ma K (C_If K) "__init__") := He.mkr_ok (T.fact 157)
theorem Txt.k_Times : Mk K (C_Times K) (He.ma K (C_Times K) "__init__") := He.mkr_ok (T.fact 158)
theorem Txt.k_Ask : Mk K (C_Ask K) (He.ma K (C_Ask K) "__init__") := He.mkr_ok (T.fact 159)
theorem Txt.k_Not : Mk K (C_Not K) (He.ma K (C_Not K) "__init__") := He.mkr_ok (T.fact 160)
theorem Txt.k_Measure : Mk K (C_Measure K) (He.ma K (C_Measure K) "__init__") := He.mkr_ok (T.fact 161)
theorem Txt.k_Block : Mk K (C_Block K) (He.ma K (C_Block K) "__init__") := He.mkr_ok (T.fact 162)
theorem Txt.k_Program : Mk K (C_Program K) (He.ma K (C_Program K) "__init__") := He.mkr_ok (T.fact 163)
theorem Txt.d_is_integer : ∃ fd, FunD K "is_integer" "is_integer" (defArgs s_is_integer) (defBody s_is_integer) (defScope s_is_integer) [] [] (a_is_integer K) fd := D7.funD (T.defE 0) (T.defB 0)
theorem Txt.k_is_integer : PySem.W.keepIn K (.ref (a_is_integer K)) = true := let ⟨_, F⟩ := T.d_is_integer; F.kp
theorem Txt.d_is_number : ∃ fd, FunD K "is_number" "is_number" (defArgs s_is_number) (defBody s_is_number) (defScope s_is_number) [] [] (a_is_number K) fd := D7.funD (T.defE 1) (T.defB 1)
theorem Txt.k_is_number : PySem.W.keepIn K (.ref (a_is_number K)) = true := let ⟨_, F⟩ := T.d_is_number; F.kp
theorem Txt.d_is_name : ∃ fd, FunD K "is_name" "is_name" (defArgs s_is_name) (defBody s_is_name) (defScope s_is_name) [] [] (a_is_name K) fd := D7.funD (T.defE 2) (T.defB 2)
theorem Txt.k_is_name : PySem.W.keepIn K (.ref (a_is_name K)) = true := let ⟨_, F⟩ := T.d_is_name; F.kp
theorem Txt.d_are_given : ∃ fd, FunD K "are_given" "are_given" (defArgs s_are_given) (defBody s_are_given) (defScope s_are_given) [] [] (a_are_given K) fd := D7.funD (T.defE 3) (T.defB 3)
theorem Txt.k_are_given : PySem.W.keepIn K (.ref (a_are_given K)) = true := let ⟨_, F⟩ := T.d_are_given; F.kp
theorem Txt.d_is_deed : ∃ fd, FunD K "is_deed" "is_deed" (defArgs s_is_deed) (defBody s_is_deed) (defScope s_is_deed) [] [] (a_is_deed K) fd := D7.funD (T.defE 4) (T.defB 4)
theorem Txt.k_is_deed : PySem.W.keepIn K (.ref (a_is_deed K)) = true := let ⟨_, F⟩ := T.d_is_deed; F.kp
theorem Txt.d_rows_of : ∃ fd, FunD K "rows_of" "rows_of" (defArgs s_rows_of) (defBody s_rows_of) (defScope s_rows_of) [] [] (a_rows_of K) fd := D7.funD (T.defE 5) (T.defB 5)
theorem Txt.k_rows_of : PySem.W.keepIn K (.ref (a_rows_of K)) = true := let ⟨_, F⟩ := T.d_rows_of; F.kp
theorem Txt.d_flat_rows : ∃ fd, FunD K "flat_rows" "flat_rows" (defArgs s_flat_rows) (defBody s_flat_rows) (defScope s_flat_rows) [] [] (a_flat_rows K) fd := D7.funD (T.defE 6) (T.defB 6)
theorem Txt.k_flat_rows : PySem.W.keepIn K (.ref (a_flat_rows K)) = true := let ⟨_, F⟩ := T.d_flat_rows; F.kp
theorem Txt.d_lines_of : ∃ fd, FunD K "lines_of" "lines_of" (defArgs s_lines_of) (defBody s_lines_of) (defScope s_lines_of) [] [] (a_lines_of K) fd := D7.funD (T.defE 7) (T.defB 7)
theorem Txt.k_lines_of : PySem.W.keepIn K (.ref (a_lines_of K)) = true := let ⟨_, F⟩ := T.d_lines_of; F.kp
theorem Txt.d_put_line : ∃ fd, FunD K "put_line" "put_line" (defArgs s_put_line) (defBody s_put_line) (defScope s_put_line) [] [] (a_put_line K) fd := D7.funD (T.defE 8) (T.defB 8)
theorem Txt.k_put_line : PySem.W.keepIn K (.ref (a_put_line K)) = true := let ⟨_, F⟩ := T.d_put_line; F.kp
theorem Txt.d_greater : ∃ fd, FunD K "greater" "greater" (defArgs s_greater) (defBody s_greater) (defScope s_greater) [] [] (a_greater K) fd := D7.funD (T.defE 9) (T.defB 9)
theorem Txt.k_greater : PySem.W.keepIn K (.ref (a_greater K)) = true := let ⟨_, F⟩ := T.d_greater; F.kp
theorem Txt.d_capped : ∃ fd, FunD K "capped" "capped" (defArgs s_capped) (defBody s_capped) (defScope s_capped) [] [] (a_capped K) fd := D7.funD (T.defE 10) (T.defB 10)
theorem Txt.k_capped : PySem.W.keepIn K (.ref (a_capped K)) = true := let ⟨_, F⟩ := T.d_capped; F.kp
theorem Txt.d_power : ∃ fd, FunD K "power" "power" (defArgs s_power) (defBody s_power) (defScope s_power) [] [] (a_power K) fd := D7.funD (T.defE 11) (T.defB 11)
theorem Txt.k_power : PySem.W.keepIn K (.ref (a_power K)) = true := let ⟨_, F⟩ := T.d_power; F.kp
theorem Txt.d_multiple_of : ∃ fd, FunD K "multiple_of" "multiple_of" (defArgs s_multiple_of) (defBody s_multiple_of) (defScope s_multiple_of) [] [] (a_multiple_of K) fd := D7.funD (T.defE 12) (T.defB 12)
theorem Txt.k_multiple_of : PySem.W.keepIn K (.ref (a_multiple_of K)) = true := let ⟨_, F⟩ := T.d_multiple_of; F.kp
theorem Txt.d_factor_apart : ∃ fd, FunD K "factor_apart" "factor_apart" (defArgs s_factor_apart) (defBody s_factor_apart) (defScope s_factor_apart) [] [] (a_factor_apart K) fd := D7.funD (T.defE 13) (T.defB 13)
theorem Txt.k_factor_apart : PySem.W.keepIn K (.ref (a_factor_apart K)) = true := let ⟨_, F⟩ := T.d_factor_apart; F.kp
theorem Txt.d_of_one : ∃ fd, FunD K "of_one" "of_one" (defArgs s_of_one) (defBody s_of_one) (defScope s_of_one) [] [] (a_of_one K) fd := D7.funD (T.defE 14) (T.defB 14)
theorem Txt.k_of_one : PySem.W.keepIn K (.ref (a_of_one K)) = true := let ⟨_, F⟩ := T.d_of_one; F.kp
theorem Txt.d_measures : ∃ fd, FunD K "measures" "measures" (defArgs s_measures) (defBody s_measures) (defScope s_measures) [] [("test", .non)] (a_measures K) fd := D7.funD (T.defE 15) (T.defB 15)
theorem Txt.k_measures : PySem.W.keepIn K (.ref (a_measures K)) = true := let ⟨_, F⟩ := T.d_measures; F.kp
theorem Txt.d_number_in : ∃ fd, FunD K "number_in" "number_in" (defArgs s_number_in) (defBody s_number_in) (defScope s_number_in) [] [("most", .int 9)] (a_number_in K) fd := D7.funD (T.defE 16) (T.defB 16)
theorem Txt.k_number_in : PySem.W.keepIn K (.ref (a_number_in K)) = true := let ⟨_, F⟩ := T.d_number_in; F.kp
theorem Txt.d_arg_in : ∃ fd, FunD K "arg_in" "arg_in" (defArgs s_arg_in) (defBody s_arg_in) (defScope s_arg_in) [] [] (a_arg_in K) fd := D7.funD (T.defE 17) (T.defB 17)
theorem Txt.k_arg_in : PySem.W.keepIn K (.ref (a_arg_in K)) = true := let ⟨_, F⟩ := T.d_arg_in; F.kp
theorem Txt.d_put_in : ∃ fd, FunD K "put_in" "put_in" (defArgs s_put_in) (defBody s_put_in) (defScope s_put_in) [] [] (a_put_in K) fd := D7.funD (T.defE 18) (T.defB 18)
theorem Txt.k_put_in : PySem.W.keepIn K (.ref (a_put_in K)) = true := let ⟨_, F⟩ := T.d_put_in; F.kp
theorem Txt.d_test_in : ∃ fd, FunD K "test_in" "test_in" (defArgs s_test_in) (defBody s_test_in) (defScope s_test_in) [] [] (a_test_in K) fd := D7.funD (T.defE 19) (T.defB 19)
theorem Txt.k_test_in : PySem.W.keepIn K (.ref (a_test_in K)) = true := let ⟨_, F⟩ := T.d_test_in; F.kp
theorem Txt.d_single_in : ∃ fd, FunD K "single_in" "single_in" (defArgs s_single_in) (defBody s_single_in) (defScope s_single_in) [] [] (a_single_in K) fd := D7.funD (T.defE 20) (T.defB 20)
theorem Txt.k_single_in : PySem.W.keepIn K (.ref (a_single_in K)) = true := let ⟨_, F⟩ := T.d_single_in; F.kp
theorem Txt.d_head_in : ∃ fd, FunD K "head_in" "head_in" (defArgs s_head_in) (defBody s_head_in) (defScope s_head_in) [] [] (a_head_in K) fd := D7.funD (T.defE 21) (T.defB 21)
theorem Txt.k_head_in : PySem.W.keepIn K (.ref (a_head_in K)) = true := let ⟨_, F⟩ := T.d_head_in; F.kp
theorem Txt.d_take_line : ∃ fd, FunD K "take_line" "take_line" (defArgs s_take_line) (defBody s_take_line) (defScope s_take_line) [] [] (a_take_line K) fd := D7.funD (T.defE 22) (T.defB 22)
theorem Txt.k_take_line : PySem.W.keepIn K (.ref (a_take_line K)) = true := let ⟨_, F⟩ := T.d_take_line; F.kp
theorem Txt.d_rows_in : ∃ fd, FunD K "rows_in" "rows_in" (defArgs s_rows_in) (defBody s_rows_in) (defScope s_rows_in) [] [] (a_rows_in K) fd := D7.funD (T.defE 23) (T.defB 23)
theorem Txt.k_rows_in : PySem.W.keepIn K (.ref (a_rows_in K)) = true := let ⟨_, F⟩ := T.d_rows_in; F.kp
theorem Txt.d_law_deal : ∃ fd, FunD K "_law_deal" "_law_deal" (defArgs s_law_deal) (defBody s_law_deal) (defScope s_law_deal) [] [] (a_law_deal K) fd := D7.funD (T.defE 24) (T.defB 24)
theorem Txt.k_law_deal : PySem.W.keepIn K (.ref (a_law_deal K)) = true := let ⟨_, F⟩ := T.d_law_deal; F.kp
theorem Txt.d_law_draw : ∃ fd, FunD K "_law_draw" "_law_draw" (defArgs s_law_draw) (defBody s_law_draw) (defScope s_law_draw) [] [] (a_law_draw K) fd := D7.funD (T.defE 25) (T.defB 25)
theorem Txt.k_law_draw : PySem.W.keepIn K (.ref (a_law_draw K)) = true := let ⟨_, F⟩ := T.d_law_draw; F.kp
theorem Txt.d_law_pick : ∃ fd, FunD K "_law_pick" "_law_pick" (defArgs s_law_pick) (defBody s_law_pick) (defScope s_law_pick) [] [] (a_law_pick K) fd := D7.funD (T.defE 26) (T.defB 26)
theorem Txt.k_law_pick : PySem.W.keepIn K (.ref (a_law_pick K)) = true := let ⟨_, F⟩ := T.d_law_pick; F.kp
theorem Txt.d_law_more : ∃ fd, FunD K "_law_more" "_law_more" (defArgs s_law_more) (defBody s_law_more) (defScope s_law_more) [] [] (a_law_more K) fd := D7.funD (T.defE 27) (T.defB 27)
theorem Txt.k_law_more : PySem.W.keepIn K (.ref (a_law_more K)) = true := let ⟨_, F⟩ := T.d_law_more; F.kp
theorem Txt.d_law_words : ∃ fd, FunD K "_law_words" "_law_words" (defArgs s_law_words) (defBody s_law_words) (defScope s_law_words) [] [] (a_law_words K) fd := D7.funD (T.defE 28) (T.defB 28)
theorem Txt.k_law_words : PySem.W.keepIn K (.ref (a_law_words K)) = true := let ⟨_, F⟩ := T.d_law_words; F.kp
theorem Txt.d_law_kinds : ∃ fd, FunD K "_law_kinds" "_law_kinds" (defArgs s_law_kinds) (defBody s_law_kinds) (defScope s_law_kinds) [] [] (a_law_kinds K) fd := D7.funD (T.defE 29) (T.defB 29)
theorem Txt.k_law_kinds : PySem.W.keepIn K (.ref (a_law_kinds K)) = true := let ⟨_, F⟩ := T.d_law_kinds; F.kp
theorem Txt.d_law_put : ∃ fd, FunD K "_law_put" "_law_put" (defArgs s_law_put) (defBody s_law_put) (defScope s_law_put) [] [] (a_law_put K) fd := D7.funD (T.defE 30) (T.defB 30)
theorem Txt.k_law_put : PySem.W.keepIn K (.ref (a_law_put K)) = true := let ⟨_, F⟩ := T.d_law_put; F.kp
theorem Txt.d_law_ask : ∃ fd, FunD K "_law_ask" "_law_ask" (defArgs s_law_ask) (defBody s_law_ask) (defScope s_law_ask) [] [] (a_law_ask K) fd := D7.funD (T.defE 31) (T.defB 31)
theorem Txt.k_law_ask : PySem.W.keepIn K (.ref (a_law_ask K)) = true := let ⟨_, F⟩ := T.d_law_ask; F.kp
theorem Txt.d_law_count : ∃ fd, FunD K "_law_count" "_law_count" (defArgs s_law_count) (defBody s_law_count) (defScope s_law_count) [] [] (a_law_count K) fd := D7.funD (T.defE 32) (T.defB 32)
theorem Txt.k_law_count : PySem.W.keepIn K (.ref (a_law_count K)) = true := let ⟨_, F⟩ := T.d_law_count; F.kp
theorem Txt.d_law_rows : ∃ fd, FunD K "_law_rows" "_law_rows" (defArgs s_law_rows) (defBody s_law_rows) (defScope s_law_rows) [] [] (a_law_rows K) fd := D7.funD (T.defE 33) (T.defB 33)
theorem Txt.k_law_rows : PySem.W.keepIn K (.ref (a_law_rows K)) = true := let ⟨_, F⟩ := T.d_law_rows; F.kp
theorem Txt.d_law_ask_text : ∃ fd, FunD K "_law_ask_text" "_law_ask_text" (defArgs s_law_ask_text) (defBody s_law_ask_text) (defScope s_law_ask_text) [] [] (a_law_ask_text K) fd := D7.funD (T.defE 34) (T.defB 34)
theorem Txt.k_law_ask_text : PySem.W.keepIn K (.ref (a_law_ask_text K)) = true := let ⟨_, F⟩ := T.d_law_ask_text; F.kp
theorem Txt.d_law_lines : ∃ fd, FunD K "_law_lines" "_law_lines" (defArgs s_law_lines) (defBody s_law_lines) (defScope s_law_lines) [] [] (a_law_lines K) fd := D7.funD (T.defE 35) (T.defB 35)
theorem Txt.k_law_lines : PySem.W.keepIn K (.ref (a_law_lines K)) = true := let ⟨_, F⟩ := T.d_law_lines; F.kp
theorem Txt.d_law_all_lines : ∃ fd, FunD K "_law_all_lines" "_law_all_lines" (defArgs s_law_all_lines) (defBody s_law_all_lines) (defScope s_law_all_lines) [] [] (a_law_all_lines K) fd := D7.funD (T.defE 36) (T.defB 36)
theorem Txt.k_law_all_lines : PySem.W.keepIn K (.ref (a_law_all_lines K)) = true := let ⟨_, F⟩ := T.d_law_all_lines; F.kp
theorem Txt.d_law_program : ∃ fd, FunD K "_law_program" "_law_program" (defArgs s_law_program) (defBody s_law_program) (defScope s_law_program) [] [] (a_law_program K) fd := D7.funD (T.defE 37) (T.defB 37)
theorem Txt.k_law_program : PySem.W.keepIn K (.ref (a_law_program K)) = true := let ⟨_, F⟩ := T.d_law_program; F.kp
theorem Txt.d_law_power : ∃ fd, FunD K "_law_power" "_law_power" (defArgs s_law_power) (defBody s_law_power) (defScope s_law_power) [] [] (a_law_power K) fd := D7.funD (T.defE 38) (T.defB 38)
theorem Txt.k_law_power : PySem.W.keepIn K (.ref (a_law_power K)) = true := let ⟨_, F⟩ := T.d_law_power; F.kp
theorem Txt.d_law_rest_more : ∃ fd, FunD K "_law_rest_more" "_law_rest_more" (defArgs s_law_rest_more) (defBody s_law_rest_more) (defScope s_law_rest_more) [] [] (a_law_rest_more K) fd := D7.funD (T.defE 39) (T.defB 39)
theorem Txt.k_law_rest_more : PySem.W.keepIn K (.ref (a_law_rest_more K)) = true := let ⟨_, F⟩ := T.d_law_rest_more; F.kp
theorem Txt.d_law_common_more : ∃ fd, FunD K "_law_common_more" "_law_common_more" (defArgs s_law_common_more) (defBody s_law_common_more) (defScope s_law_common_more) [] [] (a_law_common_more K) fd := D7.funD (T.defE 40) (T.defB 40)
theorem Txt.k_law_common_more : PySem.W.keepIn K (.ref (a_law_common_more K)) = true := let ⟨_, F⟩ := T.d_law_common_more; F.kp
theorem Txt.d_law_two_measured : ∃ fd, FunD K "_law_two_measured" "_law_two_measured" (defArgs s_law_two_measured) (defBody s_law_two_measured) (defScope s_law_two_measured) [] [] (a_law_two_measured K) fd := D7.funD (T.defE 41) (T.defB 41)
theorem Txt.k_law_two_measured : PySem.W.keepIn K (.ref (a_law_two_measured K)) = true := let ⟨_, F⟩ := T.d_law_two_measured; F.kp
theorem Txt.d_law_measured : ∃ fd, FunD K "_law_measured" "_law_measured" (defArgs s_law_measured) (defBody s_law_measured) (defScope s_law_measured) [] [] (a_law_measured K) fd := D7.funD (T.defE 42) (T.defB 42)
theorem Txt.k_law_measured : PySem.W.keepIn K (.ref (a_law_measured K)) = true := let ⟨_, F⟩ := T.d_law_measured; F.kp
theorem Txt.d_law_ask_period : ∃ fd, FunD K "_law_ask_period" "_law_ask_period" (defArgs s_law_ask_period) (defBody s_law_ask_period) (defScope s_law_ask_period) [] [] (a_law_ask_period K) fd := D7.funD (T.defE 43) (T.defB 43)
theorem Txt.k_law_ask_period : PySem.W.keepIn K (.ref (a_law_ask_period K)) = true := let ⟨_, F⟩ := T.d_law_ask_period; F.kp
theorem Txt.d_law_set_in : ∃ fd, FunD K "_law_set_in" "_law_set_in" (defArgs s_law_set_in) (defBody s_law_set_in) (defScope s_law_set_in) [] [] (a_law_set_in K) fd := D7.funD (T.defE 44) (T.defB 44)
theorem Txt.k_law_set_in : PySem.W.keepIn K (.ref (a_law_set_in K)) = true := let ⟨_, F⟩ := T.d_law_set_in; F.kp
theorem Txt.d_law_branch : ∃ fd, FunD K "_law_branch" "_law_branch" (defArgs s_law_branch) (defBody s_law_branch) (defScope s_law_branch) [] [] (a_law_branch K) fd := D7.funD (T.defE 45) (T.defB 45)
theorem Txt.k_law_branch : PySem.W.keepIn K (.ref (a_law_branch K)) = true := let ⟨_, F⟩ := T.d_law_branch; F.kp
theorem Txt.d_law_measure : ∃ fd, FunD K "_law_measure" "_law_measure" (defArgs s_law_measure) (defBody s_law_measure) (defScope s_law_measure) [] [] (a_law_measure K) fd := D7.funD (T.defE 46) (T.defB 46)
theorem Txt.k_law_measure : PySem.W.keepIn K (.ref (a_law_measure K)) = true := let ⟨_, F⟩ := T.d_law_measure; F.kp
theorem Txt.d_law_measures : ∃ fd, FunD K "_law_measures" "_law_measures" (defArgs s_law_measures) (defBody s_law_measures) (defScope s_law_measures) [] [] (a_law_measures K) fd := D7.funD (T.defE 47) (T.defB 47)
theorem Txt.k_law_measures : PySem.W.keepIn K (.ref (a_law_measures K)) = true := let ⟨_, F⟩ := T.d_law_measures; F.kp
theorem Txt.d_law_done : ∃ fd, FunD K "_law_done" "_law_done" (defArgs s_law_done) (defBody s_law_done) (defScope s_law_done) [] [] (a_law_done K) fd := D7.funD (T.defE 48) (T.defB 48)
theorem Txt.k_law_done : PySem.W.keepIn K (.ref (a_law_done K)) = true := let ⟨_, F⟩ := T.d_law_done; F.kp
theorem Txt.d_law_tame : ∃ fd, FunD K "_law_tame" "_law_tame" (defArgs s_law_tame) (defBody s_law_tame) (defScope s_law_tame) [] [] (a_law_tame K) fd := D7.funD (T.defE 49) (T.defB 49)
theorem Txt.k_law_tame : PySem.W.keepIn K (.ref (a_law_tame K)) = true := let ⟨_, F⟩ := T.d_law_tame; F.kp
theorem Txt.d_law_short : ∃ fd, FunD K "_law_short" "_law_short" (defArgs s_law_short) (defBody s_law_short) (defScope s_law_short) [] [] (a_law_short K) fd := D7.funD (T.defE 50) (T.defB 50)
theorem Txt.k_law_short : PySem.W.keepIn K (.ref (a_law_short K)) = true := let ⟨_, F⟩ := T.d_law_short; F.kp
theorem Txt.d_law : ∃ fd, FunD K "law" "law" (defArgs s_law) (defBody s_law) (defScope s_law) [] [] (a_law K) fd := D7.funD (T.defE 51) (T.defB 51)
theorem Txt.k_law : PySem.W.keepIn K (.ref (a_law K)) = true := let ⟨_, F⟩ := T.d_law; F.kp
theorem Txt.d_Row_init : ∃ fd, FunD K "__init__" "Row.__init__" (defArgs s_Row_init) (defBody s_Row_init) (defScope s_Row_init) [] [] (a_Row_init K) fd := D7.funD (T.defE 52) (T.defB 52)
theorem Txt.d_Put_init : ∃ fd cc, FunX K "__init__" "Put.__init__" (defArgs s_Put_init) (defBody s_Put_init) (defScope s_Put_init) [] cc (a_Put_init K) fd := D7.funX (T.defE 53) (T.defB 53)
theorem Txt.d_Stop_init : ∃ fd cc, FunX K "__init__" "Stop.__init__" (defArgs s_Stop_init) (defBody s_Stop_init) (defScope s_Stop_init) [] cc (a_Stop_init K) fd := D7.funX (T.defE 54) (T.defB 54)
theorem Txt.d_If_init : ∃ fd cc, FunX K "__init__" "If.__init__" (defArgs s_If_init) (defBody s_If_init) (defScope s_If_init) [.ref (He.dflAt ("If", some "__init__") 0 K)] cc (a_If_init K) fd := D7.funX (T.defE 55) (T.defB 55)
theorem Txt.d_Times_init : ∃ fd cc, FunX K "__init__" "Times.__init__" (defArgs s_Times_init) (defBody s_Times_init) (defScope s_Times_init) [] cc (a_Times_init K) fd := D7.funX (T.defE 56) (T.defB 56)
theorem Txt.d_Test_init : ∃ fd, FunD K "__init__" "Test.__init__" (defArgs s_Test_init) (defBody s_Test_init) (defScope s_Test_init) [] [] (a_Test_init K) fd := D7.funD (T.defE 57) (T.defB 57)
theorem Txt.d_Test_str : ∃ fd, FunD K "__str__" "Test.__str__" (defArgs s_Test_str) (defBody s_Test_str) (defScope s_Test_str) [] [] (a_Test_str K) fd := D7.funD (T.defE 58) (T.defB 58)
theorem Txt.d_Ask_init : ∃ fd cc, FunX K "__init__" "Ask.__init__" (defArgs s_Ask_init) (defBody s_Ask_init) (defScope s_Ask_init) [] cc (a_Ask_init K) fd := D7.funX (T.defE 59) (T.defB 59)
theorem Txt.d_Not_init : ∃ fd cc, FunX K "__init__" "Not.__init__" (defArgs s_Not_init) (defBody s_Not_init) (defScope s_Not_init) [] cc (a_Not_init K) fd := D7.funX (T.defE 60) (T.defB 60)
theorem Txt.d_Measure_init : ∃ fd, FunD K "__init__" "Measure.__init__" (defArgs s_Measure_init) (defBody s_Measure_init) (defScope s_Measure_init) [] [] (a_Measure_init K) fd := D7.funD (T.defE 61) (T.defB 61)
theorem Txt.d_Measure_told_of : ∃ fd, FunD K "told_of" "Measure.told_of" (defArgs s_Measure_told_of) (defBody s_Measure_told_of) (defScope s_Measure_told_of) [] [] (a_Measure_told_of K) fd := D7.funD (T.defE 62) (T.defB 62)
theorem Txt.d_Measure_note : ∃ fd, FunD K "note" "Measure.note" (defArgs s_Measure_note) (defBody s_Measure_note) (defScope s_Measure_note) [] [] (a_Measure_note K) fd := D7.funD (T.defE 63) (T.defB 63)
theorem Txt.d_Measure_times : ∃ fd, FunD K "times" "Measure.times" (defArgs s_Measure_times) (defBody s_Measure_times) (defScope s_Measure_times) [] [] (a_Measure_times K) fd := D7.funD (T.defE 64) (T.defB 64)
theorem Txt.d_Measure_go : ∃ fd, FunD K "go" "Measure.go" (defArgs s_Measure_go) (defBody s_Measure_go) (defScope s_Measure_go) [] [] (a_Measure_go K) fd := D7.funD (T.defE 65) (T.defB 65)
theorem Txt.d_Measure_branch : ∃ fd, FunD K "branch" "Measure.branch" (defArgs s_Measure_branch) (defBody s_Measure_branch) (defScope s_Measure_branch) [] [] (a_Measure_branch K) fd := D7.funD (T.defE 66) (T.defB 66)
theorem Txt.d_Measure_look : ∃ fd, FunD K "look" "Measure.look" (defArgs s_Measure_look) (defBody s_Measure_look) (defScope s_Measure_look) [] [] (a_Measure_look K) fd := D7.funD (T.defE 67) (T.defB 67)
theorem Txt.d_Measure_more_by : ∃ fd, FunD K "more_by" "Measure.more_by" (defArgs s_Measure_more_by) (defBody s_Measure_more_by) (defScope s_Measure_more_by) [] [] (a_Measure_more_by K) fd := D7.funD (T.defE 68) (T.defB 68)
theorem Txt.d_Measure_measured : ∃ fd, FunD K "measured" "Measure.measured" (defArgs s_Measure_measured) (defBody s_Measure_measured) (defScope s_Measure_measured) [] [] (a_Measure_measured K) fd := D7.funD (T.defE 69) (T.defB 69)
theorem Txt.d_Measure_of_two : ∃ fd, FunD K "of_two" "Measure.of_two" (defArgs s_Measure_of_two) (defBody s_Measure_of_two) (defScope s_Measure_of_two) [] [] (a_Measure_of_two K) fd := D7.funD (T.defE 70) (T.defB 70)
theorem Txt.d_Block_init : ∃ fd, FunD K "__init__" "Block.__init__" (defArgs s_Block_init) (defBody s_Block_init) (defScope s_Block_init) [] [] (a_Block_init K) fd := D7.funD (T.defE 71) (T.defB 71)
theorem Txt.d_Block_can_turn : ∃ fd, FunD K "can_turn" "Block.can_turn" (defArgs s_Block_can_turn) (defBody s_Block_can_turn) (defScope s_Block_can_turn) [] [] (a_Block_can_turn K) fd := D7.funD (T.defE 72) (T.defB 72)
theorem Txt.d_Block_turn : ∃ fd, FunD K "turn" "Block.turn" (defArgs s_Block_turn) (defBody s_Block_turn) (defScope s_Block_turn) [] [] (a_Block_turn K) fd := D7.funD (T.defE 73) (T.defB 73)
theorem Txt.d_Block_made : ∃ fd, FunD K "made" "Block.made" (defArgs s_Block_made) (defBody s_Block_made) (defScope s_Block_made) [] [] (a_Block_made K) fd := D7.funD (T.defE 74) (T.defB 74)
theorem Txt.d_Program_init : ∃ fd, FunD K "__init__" "Program.__init__" (defArgs s_Program_init) (defBody s_Program_init) (defScope s_Program_init) [.ref (He.dflAt ("Program", some "__init__") 0 K)] [] (a_Program_init K) fd := D7.funD (T.defE 75) (T.defB 75)
theorem Txt.d_Program_read : ∃ fd, FunD K "read" "Program.read" (defArgs s_Program_read) (defBody s_Program_read) (defScope s_Program_read) [] [] (a_Program_read K) fd := D7.funD (T.defE 76) (T.defB 76)
theorem Txt.d_Program_len : ∃ fd, FunD K "__len__" "Program.__len__" (defArgs s_Program_len) (defBody s_Program_len) (defScope s_Program_len) [] [] (a_Program_len K) fd := D7.funD (T.defE 77) (T.defB 77)
theorem Txt.d_Program_add : ∃ fd, FunD K "__add__" "Program.__add__" (defArgs s_Program_add) (defBody s_Program_add) (defScope s_Program_add) [] [] (a_Program_add K) fd := D7.funD (T.defE 78) (T.defB 78)
theorem Txt.tab_SIGNS : ∃ es n, KDict K w (He.ga K "SIGNS") es n ∧ es.toList.map He.keyOf = He.keysIn w.params ["+", "-", "*", "//", "**"] := T.tab 0
theorem Txt.tab_PLAIN : ∃ es n, KDict K w (He.ga K "PLAIN") es n ∧ es.toList.map He.keyOf = He.keysIn w.params ["number", "base", "let", "turned", "least", "greatest", "sum", "many", "root", "figure", "first", "last", "joined", "common", "lesser", "rest"] := T.tab 1
theorem Txt.tab_ASKED : ∃ es n, KDict K w (He.ga K "ASKED") es n ∧ es.toList.map He.keyOf = He.keysIn w.params ["same", "less", "divides", "mirrored", "unlike"] := T.tab 2
theorem Txt.x_UNSTEADY : (He.tupB K "UNSTEADY" [.str "//", .str "rest", .str "common"]) = true := T.ex 0
theorem Txt.x_CROOKED : (He.tupB K "CROOKED" [.str "turned", .str "least", .str "greatest", .str "first", .str "last"]) = true := T.ex 1
theorem Txt.x_AT_FIRST : (He.tupB K "AT_FIRST" [.int 1, .int 1, .bl true, .bl true]) = true := T.ex 2
theorem Txt.x_MULTIPLES : (He.tupB K "MULTIPLES" [.int 1, .int 1, .int 2, .int 6, .int 12, .int 60, .int 60]) = true := T.ex 3
theorem Txt.x_SIGNS : (He.valsB K (He.ga K "SIGNS") [("+", .str "xy"), ("-", .str "xy"), ("*", .str "xy"), ("//", .str "xy"), ("**", .str "xk")]) = true := T.ex 4
theorem Txt.x_PLAIN : (He.valsB K (He.ga K "PLAIN") [("number", .str "k"), ("base", .str ""), ("let", .str "x"), ("turned", .str "x"), ("least", .str "x"), ("greatest", .str "x"), ("sum", .str "x"), ("many", .str "x"), ("root", .str "x"), ("figure", .str "kx"), ("first", .str "kx"), ("last", .str "kx"), ("joined", .str "xy"), ("common", .str "xy"), ("lesser", .str "xy"), ("rest", .str "xy")]) = true := T.ex 5
theorem Txt.x_ASKED : (He.valsB K (He.ga K "ASKED") [("same", .int 2), ("less", .int 2), ("divides", .int 2), ("mirrored", .int 1), ("unlike", .int 1)]) = true := T.ex 6
theorem Txt.x_super_Put : (superB K (He.ga K "Put") (He.ga K "Row")) = true := T.ex 7
theorem Txt.x_super_Stop : (superB K (He.ga K "Stop") (He.ga K "Row")) = true := T.ex 8
theorem Txt.x_super_If : (superB K (He.ga K "If") (He.ga K "Row")) = true := T.ex 9
theorem Txt.x_super_Times : (superB K (He.ga K "Times") (He.ga K "Row")) = true := T.ex 10
theorem Txt.x_super_Ask : (superB K (He.ga K "Ask") (He.ga K "Test")) = true := T.ex 11
theorem Txt.x_super_Not : (superB K (He.ga K "Not") (He.ga K "Test")) = true := T.ex 12
theorem Txt.x_inst_Row : (instB K (He.ga K "Row")) = true := T.ex 13
theorem Txt.x_inst_Put : (instB K (He.ga K "Put")) = true := T.ex 14
theorem Txt.x_inst_Stop : (instB K (He.ga K "Stop")) = true := T.ex 15
theorem Txt.x_inst_If : (instB K (He.ga K "If")) = true := T.ex 16
theorem Txt.x_inst_Times : (instB K (He.ga K "Times")) = true := T.ex 17
theorem Txt.x_inst_Test : (instB K (He.ga K "Test")) = true := T.ex 18
theorem Txt.x_inst_Ask : (instB K (He.ga K "Ask")) = true := T.ex 19
theorem Txt.x_inst_Not : (instB K (He.ga K "Not")) = true := T.ex 20
theorem Txt.x_inst_Measure : (instB K (He.ga K "Measure")) = true := T.ex 21
theorem Txt.x_inst_Block : (instB K (He.ga K "Block")) = true := T.ex 22
theorem Txt.x_inst_Program : (instB K (He.ga K "Program")) = true := T.ex 23
theorem Txt.x_is_Put_Row : (kitD K (He.ga K "Put") (.ref (He.ga K "Row")) true) = true := T.ex 24
theorem Txt.x_is_Put_Put : (kitD K (He.ga K "Put") (.ref (He.ga K "Put")) true) = true := T.ex 25
theorem Txt.x_is_Put_If : (kitD K (He.ga K "Put") (.ref (He.ga K "If")) false) = true := T.ex 26
theorem Txt.x_is_Put_Times : (kitD K (He.ga K "Put") (.ref (He.ga K "Times")) false) = true := T.ex 27
theorem Txt.x_is_Stop_Row : (kitD K (He.ga K "Stop") (.ref (He.ga K "Row")) true) = true := T.ex 28
theorem Txt.x_is_Stop_Put : (kitD K (He.ga K "Stop") (.ref (He.ga K "Put")) false) = true := T.ex 29
theorem Txt.x_is_Stop_If : (kitD K (He.ga K "Stop") (.ref (He.ga K "If")) false) = true := T.ex 30
theorem Txt.x_is_Stop_Times : (kitD K (He.ga K "Stop") (.ref (He.ga K "Times")) false) = true := T.ex 31
theorem Txt.x_is_If_Row : (kitD K (He.ga K "If") (.ref (He.ga K "Row")) true) = true := T.ex 32
theorem Txt.x_is_If_Put : (kitD K (He.ga K "If") (.ref (He.ga K "Put")) false) = true := T.ex 33
theorem Txt.x_is_If_If : (kitD K (He.ga K "If") (.ref (He.ga K "If")) true) = true := T.ex 34
theorem Txt.x_is_If_Times : (kitD K (He.ga K "If") (.ref (He.ga K "Times")) false) = true := T.ex 35
theorem Txt.x_is_Times_Row : (kitD K (He.ga K "Times") (.ref (He.ga K "Row")) true) = true := T.ex 36
theorem Txt.x_is_Times_Put : (kitD K (He.ga K "Times") (.ref (He.ga K "Put")) false) = true := T.ex 37
theorem Txt.x_is_Times_If : (kitD K (He.ga K "Times") (.ref (He.ga K "If")) false) = true := T.ex 38
theorem Txt.x_is_Times_Times : (kitD K (He.ga K "Times") (.ref (He.ga K "Times")) true) = true := T.ex 39
theorem Txt.x_is_Ask_Test : (kitD K (He.ga K "Ask") (.ref (He.ga K "Test")) true) = true := T.ex 40
theorem Txt.x_is_Ask_Not : (kitD K (He.ga K "Ask") (.ref (He.ga K "Not")) false) = true := T.ex 41
theorem Txt.x_is_Ask_int : (kitD K (He.ga K "Ask") (.type "int") false) = true := T.ex 42
theorem Txt.x_is_Not_Test : (kitD K (He.ga K "Not") (.ref (He.ga K "Test")) true) = true := T.ex 43
theorem Txt.x_is_Not_Not : (kitD K (He.ga K "Not") (.ref (He.ga K "Not")) true) = true := T.ex 44
theorem Txt.x_is_Not_int : (kitD K (He.ga K "Not") (.type "int") false) = true := T.ex 45
theorem Txt.x_is_Program_Program : (kitD K (He.ga K "Program") (.ref (He.ga K "Program")) true) = true := T.ex 46
theorem Txt.x_read : (cmB K "Program" "read") = true := T.ex 47
theorem Txt.x_dIf : (emptyB K (He.dflAt ("If", some "__init__") 0 K)) = true := T.ex 48
theorem Txt.x_dProgram : (emptyB K (He.dflAt ("Program", some "__init__") 0 K)) = true := T.ex 49
theorem Txt.x_first : (PySem.W.selfFirst K (He.ga K "Program")) = true := T.ex 50
theorem Txt.x_stat : (He.eqO (PySem.W.nsIn K PySem.cStatics "thirdparty.any") (some none)) = true := T.ex 51
theorem Txt.x_len : (specB K "Program" "__len__") = true := T.ex 52
theorem Txt.x_add : (specB K "Program" "__add__") = true := T.ex 53
theorem Txt.x_strAsk : (strB K "Ask") = true := T.ex 54
theorem Txt.x_strNot : (strB K "Not") = true := T.ex 55
end
end E97
set_option Elab.async false
set_option linter.all false
set_option maxRecDepth 100000
set_option maxHeartbeats 0
namespace E97
open PySem PySem.W PySem.Calls PyProof.Rows
abbrev R : OpenRow := OpenLaw.row PySem.Challenge.rw_everybase_k97_whole_measures_of_programs
abbrev qv : Program := view R.prog [128]
def ob (s : SharedT) : Al7 := obs7 fa dAll exL tabs (frE (HandSHeadRun.getT s))
theorem ob_eq (s : SharedT) : ob s = hook7.obs s.abs := by
  have e : HandSHeadRun.getT s = s.abs.heap.get? := funext (HandSHeadRun.getT_eq s)
  show obs7 fa dAll exL tabs (frE (HandSHeadRun.getT s)) = obs7 fa dAll exL tabs (frE s.abs.heap.get?)
  rw [e]
def n1 : List PySem.Str := ["_wall", "FigureError", "InvalidBase", "InvalidNumber", "NoFigure", "InvalidRow", "InvalidText", "Stopped", "NoRow", "NAME_SIGNS", "MOST_SIGNS", "LEAST_BASE", "is_integer", "is_number", "is_base", "is_name", "SIGNS", "PLAIN", "ASKED", "are_given", "is_deed", "rows_of", "flat_rows", "lines_of"]
def n2 : List PySem.Str := ["Row", "put_line", "Put", "Stop", "If", "Times", "Test", "Ask", "Not", "BEYOND", "UNSTEADY", "CROOKED", "AT_FIRST", "MOST", "MULTIPLES", "greater", "capped", "power", "power_measures", "Measure", "multiple_of", "factor_apart", "of_one", "measures"]
def n3 : List PySem.Str := ["need_base", "need_numbers", "power_figures", "figures_of", "put_together", "number_of", "ascending", "turned", "least", "greatest", "total", "many", "root", "figure", "first", "last", "joined", "mirrored", "unlike", "common", "OF_ONE", "OF_PART", "power_going", "plain_result"]
def n4 : List PySem.Str := ["Going", "gone", "numbers_of", "DIGITS", "MOST_DIGITS", "number_in", "arg_in", "put_in", "test_in", "single_in", "Block", "head_in", "take_line", "rows_in", "Program", "_law_deal", "_law_draw", "_law_pick", "_law_more", "_law_words", "_law_kinds", "_law_put", "_law_ask", "_law_count"]
def n5 : List PySem.Str := ["_law_rows", "_law_ask_text", "_law_lines", "_law_all_lines", "_law_program", "_law_power", "_law_rest_more", "_law_common_more", "_law_two_measured", "_law_measured", "_law_ask_period", "_law_set_in", "_law_branch", "_law_measure", "_law_measures", "_law_done", "_law_tame", "_law_fits", "_law_small", "_law_short"]
def names : List PySem.Str := n1 ++ (n2 ++ (n3 ++ (n4 ++ (n5))))
/-- the run's equation from two looks at the end, each checked in a run of its own (memory) -/
theorem map3 {A B C D : Type} {o : Option A} {f : A → B} {g : A → C} {h : A → D} {b : B} {c : C} {d : D} (h1 : o.map (fun s => (f s, g s)) = some (b, c)) (h2 : o.map h = some d) : o.map (fun s => (f s, g s, h s)) = some (b, c, d) := by
  cases o with
  | none => cases h1
  | some s =>
    have e1 : (f s, g s) = (b, c) := Option.some.inj h1
    have e2 : h s = d := Option.some.inj h2
    have e3 : f s = b := congrArg Prod.fst e1
    have e4 : g s = c := congrArg Prod.snd e1
    show some (f s, g s, h s) = _
    rw [e2, e3, e4]
noncomputable abbrev endW (w : World) (os : OsState) : Option SharedT := HandSHeadRun.endF (HandSHeadRun.stepQ (HandSHeadRun.denQ HandSHeadRun.tabQ) R.prog w) 20000 R.prog w os
def LooksW (w : World) : Prop := ∀ os : OsState, (endW w os).map (fun s => (HandSHeadRun.looksF R.prog (boot_heap w.params) s.abs, HandSHeadRun.seenQ qv names (importedModules R.prog.main.body) (fun s => xlAt qv [] s && recOk R.toRowW.records s) s.abs)) = some (true, openGood qv names)
def ObW (w : World) : Prop := ∀ os : OsState, (endW w os).map (fun s => ob s) = some (hook7.val w)
theorem looksFa (w : World) : LooksW (w.withFollow "special-get-raises" false) := by
  intro os
  kernel_rfl
theorem looksTr (w : World) : LooksW (w.withFollow "special-get-raises" true) := by
  intro os
  kernel_rfl
theorem obFa (w : World) : ObW (w.withFollow "special-get-raises" false) := by
  intro os
  kernel_rfl
theorem obTr (w : World) : ObW (w.withFollow "special-get-raises" true) := by
  intro os
  kernel_rfl
theorem runF (w : World) : HandSHeadRun.RunEq R qv hook7 ob 20000 names (w.withFollow "special-get-raises" false) := fun os => map3 (looksFa w os) (obFa w os)
theorem runT (w : World) : HandSHeadRun.RunEq R qv hook7 ob 20000 names (w.withFollow "special-get-raises" true) := fun os => map3 (looksTr w os) (obTr w os)
theorem run (w : World) : HandSHeadRun.RunEq R qv hook7 ob 20000 names w := byRow2 "special-get-raises" (P := fun w => HandSHeadRun.RunEq R qv hook7 ob 20000 names w) runF runT w
end E97
namespace E97
open PySem PySem.W PySem.Calls PyProof.Rows
/-- the head: what is left is the law's own promise -/
theorem head (hF : ∀ (w : World) (mg : PySem.Str → Option Value) (fa : Addr) (h : Heap) (K : PySem.W.Frag), Txt w K mg → K.In h → mg ("law" : PySem.Str) = some (.ref fa) →
    ∃ (K : PySem.W.Frag) (fd : FuncData) (sp : L2.Sp), K.In h ∧ (∀ (s : Shared) (u : Value), BindsTo s fd ⟨[u], []⟩ [(("_law_script" : PySem.Str), u)]) ∧
      (∀ (H : L2.Hp) (a : Addr) (ns : List Int), ns.length ≤ 63 → L2.Only H → L2.SqL K H a (ns.map L2.V.int) → sp [.ref a] H (fun v _ => v = .bl true) fun _ _ _ => False) ∧
      ∀ base : Heap, K.In base → base.Ns mainGlobals mg → L2.FnOk PySem.Challenge.rw_everybase_k97_whole_measures_of_programs.prog w K mg base L2.CX0 200 fa fd [("_law_script" : PySem.Str)] sp) :
    PySem.Challenge.rw_everybase_k97_whole_measures_of_programs.Holds := by
  w_on; o_law
  refine HandSHeadRun.head_any (r := OpenLaw.row PySem.Challenge.rw_everybase_k97_whole_measures_of_programs) (q := view (OpenLaw.row PySem.Challenge.rw_everybase_k97_whole_measures_of_programs).prog [128]) (H := E97.hook7) (ob := E97.ob) (M := 20000) (loose := E97.names) (d := HandSHeadRun.topDef (OpenLaw.row PySem.Challenge.rw_everybase_k97_whole_measures_of_programs).prog 128) (kwd := []) E97.ob_eq
    (by kernel_rfl) (fun s => by kernel_rfl) E97.run (by kernel_rfl) (by kernel_rfl) (by kernel_rfl) (by rfl) (by first | assumption | decide +kernel) (by decide +kernel) ⟨rfl, rfl, rfl, rfl, rfl, by decide +kernel⟩ ?hw ?hc
  case hw => w_witness2
  case hc =>
    refine L2.walk_ofE (l := PySem.Challenge.rw_everybase_k97_whole_measures_of_programs) (n := 63) (k := 200) (x := "_law_script") (CX := L2.CX0) rfl (by decide) (by kernel_rfl) ⟨rfl, by decide, by decide⟩ ?F (fun _ _ _ _ z => z)
    intro w mg fa h Y G hmg0
    obtain ⟨K, KX, c⟩ := Y
    have T := E97.Txt.mk7 KX G c
    have hmg : mg ("law" : PySem.Str) = some (.ref fa) := by
      have e : (HandSHeadRun.topDef (OpenLaw.row PySem.Challenge.rw_everybase_k97_whole_measures_of_programs).prog 128).name = ("law" : PySem.Str) := by kernel_rfl
      rw [← e]
      exact hmg0
    exact hF w mg fa h K T KX hmg
end E97
set_option Elab.async false
set_option linter.all false
set_option maxRecDepth 100000
set_option maxHeartbeats 4000000
/-! E97Z: zip of a text and a tuple. -/
namespace E97
open PySem PySem.Spec PyProof.Rows L2 Evl RZ
/-- the text z and the tuple at b as it stands at each turn, the items in new pairs -/
def ItzS (K : PySem.W.Frag) (z : Str) (b : Addr) : It :=
  ⟨fun i H => ∃ (ys : List V) (c : Nat) (y : V), SqT K H b ys ∧ z.cps[i]? = some c ∧ ys[i]? = some y,
    fun i H v H' => ∃ T c y, v = .ref T ∧ H T = none ∧ H' = upd H T (.tup [.str ⟨#[c]⟩, y]) ∧ z.cps[i]? = some c ∧ ∀ ys, SqT K H b ys → ys[i]? = some y,
    fun i H => ∃ ys : List V, SqT K H b ys ∧ i ≤ z.cps.size ∧ i ≤ ys.length ∧ (i = z.cps.size ∨ i = ys.length)⟩
theorem turn_zipS {P : Program} {w : World} {K : PySem.W.Frag} {elts : List Expr} {kk : Nat} {tpos : Pos} {zt : Str} {tk : Tok} {b z TI TO i1 i2 : Addr} (D : ZipApart z TI TO i1 i2 b b) :
    L2.Turn P w K (.Tuple elts kk tpos) (ItzS K zt b) [z, TI, TO, i1, i2] z (fun i h => IsZip h z TI TO .none ∧ IsPair h TI (.ref i1) (.ref i2) ∧ (∃ x y, IsPair h TO x y) ∧ h.IsStrIter i1 (strIterType zt) zt tk i ∧ h.IsTupleIter i2 b i) where
  mem := by simp
  obj := fun i h st c hc => by
    obtain ⟨hz, hTI, ⟨x, y, hTO⟩, ⟨o1, e1, _, d1⟩, ⟨o2, e2, _, d2⟩⟩ := st
    have e' : c = z ∨ c = TI ∨ c = TO ∨ c = i1 ∨ c = i2 := by simpa using hc
    rcases e' with q | q | q | q | q
    · rw [q]; exact ⟨_, hz, fun v q => nomatch q⟩
    · rw [q]; exact ⟨_, hTI, fun v q => nomatch q⟩
    · rw [q]; exact ⟨_, hTO, fun v q => nomatch q⟩
    · rw [q]; exact ⟨o1, e1, fun v q => by rw [d1] at q; cases q⟩
    · rw [q]; exact ⟨o2, e2, fun v q => by rw [d2] at q; cases q⟩
  keep := fun i h h' st k => by
    obtain ⟨hz, hTI, ⟨x, y, hTO⟩, ⟨o1, e1, c1⟩, h2⟩ := st
    exact ⟨k z (by simp) _ hz, k TI (by simp) _ hTI, ⟨x, y, k TO (by simp) _ hTO⟩, ⟨o1, k i1 (by simp) _ e1, c1⟩, h2.at fun o q => k i2 (by simp) o q⟩
  item := by
    intro X hP hw hK hc i pins s σ H E I hf st hg
    subst hP hw hK
    obtain ⟨hz, hTI, ⟨x0, y0, hTO⟩, h1, h2⟩ := st
    obtain ⟨ys, c, y, hqy, hx, hy⟩ := hg
    obtain ⟨its2, rv2, p2, _⟩ := I.tuple hqy
    obtain ⟨u2, hu2, ru2⟩ := rv2.get hy
    have hzl : z < s.heap.objs.size := Heap.lt_size hz
    have S : ZipSep2 z TI TO i1 i2 [i1] [i2, b] := ⟨D.TIz, D.TOz, D.TITO, D.TIi1, by simp, by simpa using D.i1z.symm, by simpa using D.TOi1, D.TIi2, by simp, by simpa using ⟨D.i2z.symm, D.l2z.symm⟩, by simpa using ⟨D.TOi2, D.l2TO.symm⟩, by simpa using ⟨D.i12, D.l2i1.symm⟩, by simpa using D.i12.symm⟩
    have D1 := Draws.text (prog := X.prog) (w := X.w) (A := X.A.in1) (I.ok.hd hc) i1 zt tk
    have D2 := Draws.tuple (prog := X.prog) (w := X.w) (A := X.A.in1) (I.ok.hd hc) i2 b D.l2i2 its2.toArray
    refine wpAny_pyNext_zipD2_item S D1 D2 hz hTI hTO h1 ⟨h2, p2⟩ (Array.getElem?_eq_some_iff.mp hx).1 (by have := (List.getElem?_eq_some_iff.mp hu2).1; simpa using this) fun x1 x2 h' tk' y1 y2 z' TO' s1' s2' hT hsz hk => ?_
    obtain ⟨c', tc, hc', rfl⟩ := y1
    rw [hx] at hc'
    cases hc'
    have ex2 : x2 = u2 := by
      rw [List.getElem?_toArray] at y2
      rw [hu2] at y2
      exact (Option.some.inj y2).symm
    subst ex2
    have nf : ∀ c o, c ∉ [z, TI, TO, i1, i2] → s.heap.get? c = some o → h'.get? c = some o := fun c o hb q => hk c o (fun q' => hb (by simp [q'])) (fun q' => hb (by simp [q'])) (fun q' => hb (by simp [q'])) (fun q' => hb (by simp [q'])) q
    refine ⟨_, rfl, wpAny_letOwnedTupleGo_zip (s := { s with heap := h', toks := tk' }) z' fun h'' z'' sb => ?_⟩
    have hT2 : h''.get? s.heap.objs.size = some { cls := .type "tuple", data := .seq #[.str ⟨#[c]⟩ tc, x2] } := (sb.2 _ (Nat.ne_of_gt hzl)).trans hT
    have new : ObjOk X.prog X.w (upd H s.heap.objs.size (.tup [.str ⟨#[c]⟩, y])) h'' s.heap.objs.size (.tup [.str ⟨#[c]⟩, y]) :=
      ⟨by show 2 ≤ sizeLine; decide, [.str ⟨#[c]⟩ tc, x2], .cons ⟨tc, rfl⟩ (.cons ru2 .nil), ⟨_, hT2, rfl, _, rfl⟩⟩
    have I1 : Inv X pins σ (upd H s.heap.objs.size (.tup [.str ⟨#[c]⟩, y])) { s with heap := h'', toks := tk' } :=
      I.turnedNew (t' := tk') (ch := [z, TI, TO, i1, i2]) (fun c o hb q => (sb.2 c (fun q' => hb (by simp [q']))).trans (nf c o hb q)) hf (Nat.le_refl _) new
    refine ⟨.ref s.heap.objs.size, _, I1, rfl, ⟨_, c, y, rfl, I.hok.fresh (Nat.le_refl _), rfl, hx, fun l hl => by rw [I.tuple_inj hl hqy]; exact hy⟩, ⟨z'', ?_, ⟨.str ⟨#[c]⟩ tc, x2, ?_⟩, ?_, ?_⟩, fun c' hcm => ?_⟩
    · exact (sb.2 _ D.TIz).trans (hk _ _ D.TIz D.TITO D.TIi1 D.TIi2 hTI)
    · exact (sb.2 _ D.TOz).trans TO'
    · obtain ⟨o1, e1, r1⟩ := s1'
      exact ⟨o1, (sb.2 _ D.i1z).trans e1, r1⟩
    · exact s2'.1.at fun o q => (sb.2 _ D.i2z).trans q
    · have hlt : c' < s.heap.objs.size := by
        have e' : c' = z ∨ c' = TI ∨ c' = TO ∨ c' = i1 ∨ c' = i2 := by simpa using hcm
        rcases e' with q | q | q | q | q
        · rw [q]; exact hzl
        · rw [q]; exact Heap.lt_size hTI
        · rw [q]; exact Heap.lt_size hTO
        · rw [q]; obtain ⟨_, e1, _⟩ := h1; exact Heap.lt_size e1
        · rw [q]; obtain ⟨_, e1, _⟩ := h2; exact Heap.lt_size e1
      rw [upd_ne (Nat.ne_of_lt hlt)]
      exact (hf c' hcm).1
  done := by
    intro X hP hw hK hc i pins s σ H E I hf st hg
    subst hP hw hK
    obtain ⟨hz, hTI, ⟨x0, y0, hTO⟩, h1, h2⟩ := st
    obtain ⟨ys, hqy, g1, g2, hend⟩ := hg
    obtain ⟨its2, rv2, p2, _⟩ := I.tuple hqy
    have l2 := rv2.length
    have S : ZipSep2 z TI TO i1 i2 [i1] [i2, b] := ⟨D.TIz, D.TOz, D.TITO, D.TIi1, by simp, by simpa using D.i1z.symm, by simpa using D.TOi1, D.TIi2, by simp, by simpa using ⟨D.i2z.symm, D.l2z.symm⟩, by simpa using ⟨D.TOi2, D.l2TO.symm⟩, by simpa using ⟨D.i12, D.l2i1.symm⟩, by simpa using D.i12.symm⟩
    have D1 := Draws.text (prog := X.prog) (w := X.w) (A := X.A.in1) (I.ok.hd hc) i1 zt tk
    have D2 := Draws.tuple (prog := X.prog) (w := X.w) (A := X.A.in1) (I.ok.hd hc) i2 b D.l2i2 its2.toArray
    exact wpAny_pyNext_zipD2_end S D1 D2 hz hTI hTO h1 ⟨h2, p2⟩ g1 (by simp; omega) (by rcases hend with q | q; exact .inl q; exact .inr (by simp; omega)) fun h' tk' hk => ⟨rfl, I.turnedL (t' := tk') (ch := [z, TI, TO, i1, i2]) (fun c o hb q =>
      hk c o (fun q' => hb (by simp [q'])) (fun q' => hb (by simp [q'])) (fun q' => hb (by simp [q'])) (fun q' => hb (by simp [q'])) q) hf⟩
  self := fun A i s Q E st h => wpAny_pyIter_zip st.1 h
def iZipS (K : PySem.W.Frag) (ta : TA) : TI := fun σ H R => ta σ H fun vs H1 => ∃ (z : Str) (b : Addr) (ys : List V), vs = [.str z, .ref b] ∧ SqT K H1 b ys ∧ R (ItzS K z b) H1
theorem pi_zipS {X : Cx} {e e2 : Expr} {ta : TA} {p pos tpos : Pos} {elts : List Expr} {kk : Nat} (hg : Gl X "zip") (hm : X.mg "zip" = none) (ha : PA X [e, e2] ta)
    (hs : starEach [e, e2] X.env = (false, eval e X.env) :: starEach [e2] X.env := by rfl) (hpl : (backTo pos (starEach [e2] X.env)).any (·.1) = false := by rfl) :
    PI X (.Tuple elts kk tpos) (.Call (.Name "zip" p) [e, e2] [] pos) (iZipS X.K ta) := by
  refine ⟨fun pins s σ H R I h => ?_⟩
  refine Call_ (ld_blt I hg hm PyProof.Rows.boot_zip (PyProof.Rows.callWith_type1 (thn (ha.run pos pins s σ H _ I h) fun us s1 ⟨vs, H1, I1, r1, q1⟩ => ?_) hs hpl))
  obtain ⟨z, b, ys, ex, hqy, q⟩ := q1
  subst ex
  obtain ⟨u1, u2, rfl, ru1, ru2⟩ := vals2 r1
  obtain ⟨tk, rfl⟩ := (show ∃ t, u1 = Value.str z t from ru1)
  cases (show u2 = Value.ref b from ru2)
  have fresh5 : ∀ c, c ∈ [s1.heap.objs.size + 4, s1.heap.objs.size + 2, s1.heap.objs.size + 3, s1.heap.objs.size, s1.heap.objs.size + 1] → FpOk X pins H1 c := fun c hcm => by
    have e' : c = s1.heap.objs.size + 4 ∨ c = s1.heap.objs.size + 2 ∨ c = s1.heap.objs.size + 3 ∨ c = s1.heap.objs.size ∨ c = s1.heap.objs.size + 1 := by simpa using hcm
    have hle : s1.heap.objs.size ≤ c := by
      rcases e' with z | z | z | z | z
      · rw [z]; exact Nat.le_add_right _ _
      · rw [z]; exact Nat.le_add_right _ _
      · rw [z]; exact Nat.le_add_right _ _
      · rw [z]; exact Nat.le_refl _
      · rw [z]; exact Nat.le_add_right _ _
    exact I1.fpOk hle (I1.hok.fresh hle)
  obtain ⟨its2, rv2, p2, _⟩ := I1.tuple hqy
  obtain ⟨o2, ho2, _⟩ := id p2
  refine PySem.zip_begins2 (PySem.begins_text z tk) (PySem.begins_tuple b its2.toArray) True.intro p2 fun h' hz hTI hTO h1 h2 hsz hk => wpAny_pyIter_zip hz ?_
  have I2 : Inv X pins σ H1 { s1 with heap := h' } := I1.kept (t' := s1.toks) hk
  exact ⟨s1.heap.objs.size + 4, [s1.heap.objs.size + 4, s1.heap.objs.size + 2, s1.heap.objs.size + 3, s1.heap.objs.size, s1.heap.objs.size + 1], _, _, H1, rfl, I2, turn_zipS (tk := tk) (PySem.W.ktu_apart s1.heap.objs.size b b (Heap.lt_size ho2) (Heap.lt_size ho2)), ⟨hz, hTI, ⟨_, _, hTO⟩, ⟨_, h1, rfl, rfl⟩, ⟨_, h2, rfl, rfl⟩⟩, fresh5, q⟩
/-- as a Walk: the text and the tuple have the same length -/
theorem walk_zipS {K : PySem.W.Frag} {z : Str} {b : Addr} {ys : List V} (hl : ys.length = z.cps.size) : Walk (ItzS K z b) ys.length (fun H => SqT K H b ys) (fun i H v H' => ∃ T c y, v = .ref T ∧ H T = none ∧ H' = upd H T (.tup [.str ⟨#[c]⟩, y]) ∧ z.cps[i]? = some c ∧ ys[i]? = some y) :=
  ⟨fun i H hi q => ⟨ys, z.cps[i]'(by omega), ys[i], q, by simp [show i < z.cps.size by omega], by simp [hi]⟩, fun H q => ⟨ys, q, by omega, Nat.le_refl _, .inr rfl⟩, fun i H x H' hi q y => let ⟨T, c, w, h1, h2, h3, h4, h5⟩ := y; ⟨T, c, w, h1, h2, h3, h4, h5 ys q⟩⟩
theorem kpi_zipS {X : Cx} {K : PySem.W.Frag} (hK : X.K = K) {e e2 : Expr} {ta : TA} {p pos tpos : Pos} {elts : List Expr} {kk : Nat} (hg : Gl X "zip") (hm : X.mg "zip" = none) (ha : PA X [e, e2] ta)
    (hs : starEach [e, e2] X.env = (false, eval e X.env) :: starEach [e2] X.env := by rfl) (hpl : (backTo pos (starEach [e2] X.env)).any (·.1) = false := by rfl) :
    PI X (.Tuple elts kk tpos) (.Call (.Name "zip" p) [e, e2] [] pos) (iZipS K ta) := by subst hK; exact pi_zipS hg hm ha hs hpl
end E97
set_option Elab.async false
set_option linter.all false
set_option maxRecDepth 100000
set_option maxHeartbeats 4000000
/-! E97X: {x for a in .. for x in a.f} of texts, and sorted of such a set. -/
namespace E97
open PySem PySem.Spec PyProof.Rows L2 Evl
/-! ### a set of texts, all of them in NS -/
def keyT (e : Int × Value) : Str := match e.2 with
  | .str x _ => x
  | _ => Str.empty
def GoodT (P : Program) (w : World) (NS : List Str) (e : Int × Value) : Prop := ∃ x tk, e.2 = Value.str x tk ∧ e.1 = (strKind P w).hash x ∧ x ∈ NS
def SetT (P : Program) (w : World) (NS : List Str) (h : Heap) (a : Addr) : Prop :=
  ∃ o es ep t, h.get? a = some o ∧ o.ExactSet ∧ o.data = .set es ep t ∧ (∀ e ∈ es.toList, GoodT P w NS e) ∧ (es.toList.map keyT).Nodup ∧ t.fits es.size = true ∧ Ris t.place.toList ∧ (w.params.followText "set-order" = true ∨ t.led = true)
section
variable {P : Program} {w : World} {NS : List Str} {h h' : Heap} {a : Addr}
theorem SetT.at (R : SetT P w NS h a) (k : ∀ o, h.get? a = some o → h'.get? a = some o) : SetT P w NS h' a := by
  obtain ⟨o, es, ep, t, ho, r⟩ := R
  exact ⟨o, es, ep, t, k o ho, r⟩
theorem goodT_elems {l : List (Int × Value)} (g : ∀ e ∈ l, GoodT P w NS e) : ElemsOf (strKind P w) l := fun e he => by
  obtain ⟨x, tk, h1, h2, _⟩ := g e he
  exact ⟨⟨x, by rw [h1]; exact PySem.strKind_is P w x tk, h2⟩, by rw [h1] <;> rfl⟩
theorem goodT_is {e : Int × Value} (g : GoodT P w NS e) (x : Str) : (strKind P w).is x e.2 = true ↔ keyT e = x := by
  obtain ⟨y, tk, h1, _⟩ := g
  unfold keyT
  rw [h1]
  constructor
  · intro z
    obtain ⟨t2, e2⟩ := Value.isStrOf_shape (x := x) (v := .str y tk) z
    cases e2
    rfl
  · intro z
    have z' : y = x := z
    subst z'
    exact PySem.strKind_is P w y tk
theorem len_nd : ∀ {l m : List Str}, l.Nodup → (∀ x ∈ l, x ∈ m) → l.length ≤ m.length
  | [], m, _, _ => Nat.zero_le _
  | a :: l, m, hn, hs => by
    have ha : a ∈ m := hs a List.mem_cons_self
    have e : (m.erase a).length = m.length - 1 := List.length_erase_of_mem ha
    have hm : 0 < m.length := List.length_pos_of_mem ha
    have ih : l.length ≤ (m.erase a).length := len_nd (List.nodup_cons.mp hn).2 fun x hx => by
      have hne : x ≠ a := fun q => (List.nodup_cons.mp hn).1 (q ▸ hx)
      exact (List.mem_erase_of_ne hne).mpr (hs x (List.mem_cons_of_mem _ hx))
    show l.length + 1 ≤ m.length
    omega
theorem goodT_few {es : List (Int × Value)} (g : ∀ e ∈ es, GoodT P w NS e) (nd : (es.map keyT).Nodup) : es.length ≤ NS.length := by
  have z := len_nd (m := NS) nd fun x hx => by
    obtain ⟨e, he, rfl⟩ := List.mem_map.mp hx
    obtain ⟨y, tk, h1, _, hy⟩ := g e he
    unfold keyT
    rw [h1]
    exact hy
  rw [List.length_map] at z
  exact z
end
section
variable {P : Program} {w : World} {NS : List Str} {A : Around} {E : Value → Shared → Prop} {s : Shared} {a : Addr}
theorem setT_tail {g : Bool → Sem Unit} (hg : ∀ (b : Bool) (s₁ : Shared) (Q' : Unit → Shared → Prop), Q' () s₁ → wpAny (model P w) A (g b) Q' E s₁)
    {o : Obj} {es : Array (Int × Value)} {ep : Nat} {t : SetTable} (ho : s.heap.get? a = some o) (hex : o.ExactSet) (hd : o.data = .set es ep t)
    {es1 : Array (Int × Value)} {t2 : SetTable} (g1 : ∀ e ∈ es1.toList, GoodT P w NS e) (nd1 : (es1.toList.map keyT).Nodup)
    (hb1 : es1.size < scanBound) (hf2 : t2.fits es1.size = true) (hr : Ris t2.place.toList) (hl : w.params.followText "set-order" = true ∨ t2.led = true) {wasDummy : Bool} {R : Option Bool → Shared → Prop}
    (hR : ∀ h', Heap.SameBut a s.heap h' → SetT P w NS h' a → R (some true) { s with heap := h' }) :
    wpAny (model P w) A (do
        storeSet a es1 t2
        if (!wasDummy && t2.tooFull) = true then do
            g (relayAll t2 es1 (SetTable.grown es1.size)).2.2
            storeSet a (relayAll t2 es1 (SetTable.grown es1.size)).1 (relayAll t2 es1 (SetTable.grown es1.size)).2.1
            pure (some true)
          else pure (some true)) R E s := by
  refine wpAny_bind (wpAny_storeSet_of ho hd ?_ (fits_of_scanBound hb1))
  have ho1 := store_at (es' := es1) (t' := t2) ho hd
  have sb1 := Heap.SameBut.update s.heap a (Obj.putSet es1 t2)
  split
  · have pm := relayAll_perm t2 es1 (SetTable.grown es1.size)
    have hf3 := relayAll_fits t2 es1 (SetTable.grown es1.size)
    have hr3 := relayAll_ris t2 es1 (SetTable.grown es1.size)
    have hl3 := relayAll_led t2 es1 (SetTable.grown es1.size)
    generalize relayAll t2 es1 (SetTable.grown es1.size) = Z at pm hf3 hr3 hl3 ⊢
    obtain ⟨es2, t3, gave⟩ := Z
    dsimp only at pm hf3 hr3 hl3 ⊢
    have hsz : es2.size = es1.size := by rw [← Array.length_toList, pm.length_eq, Array.length_toList]
    refine wpAny_bind (hg _ _ _ ?_)
    refine wpAny_bind (wpAny_storeSet_of ho1 rfl ?_ (fits_of_scanBound (by rw [hsz]; exact hb1)))
    have ho2 := store_at (es' := es2) (t' := t3) ho1 rfl
    refine wpAny_pure (hR _ (sb1.trans (Heap.SameBut.update _ a _)) ?_)
    exact ⟨_, es2, _, t3, ho2, hex, rfl, fun e he => g1 e (pm.mem_iff.mp he), (pm.map keyT).nodup_iff.mpr nd1, hf3, hr3, hl.imp id fun z => by rw [hl3]; exact z⟩
  · exact wpAny_pure (hR _ sb1 ⟨_, es1, _, t2, ho1, hex, rfl, g1, nd1, hf2, hr, hl⟩)
theorem setT_add {x : Str} {tk : Tok} {Q : Value → Shared → Prop} (R : SetT P w NS s.heap a) (hx : x ∈ NS) (room : NS.length ≤ 20)
    (hQ : ∀ h', Heap.SameBut a s.heap h' → SetT P w NS h' a → Q .none { s with heap := h', toks := s.toks + 1 }) :
    wpAny (model P w) A (call (.builtin "set.add") [.ref a, .str x tk]) Q E s := by
  obtain ⟨o, es, ep, t, ho, hex, hd, g, nd, hf, hr, hl⟩ := R
  have hkey : (strKind P w).is x (.str x tk) = true := PySem.strKind_is P w x tk
  have hsc : (Value.str x tk).scannable = true := rfl
  have hel : ElemsOf (strKind P w) es.toList := goodT_elems g
  have hlen := goodT_few g nd
  have hb : es.size < scanBound := by
    rw [← Array.length_toList]
    exact Nat.lt_of_le_of_lt (show _ ≤ 20 by omega) (by decide)
  refine wpAny_call_entry F.slot_set_add ⟨o, ho, hex.1⟩ F.entry_set_add ?_ (F.args_set_add_2 _ _)
  unfold Builtin.«set.add» Builtin.Frozenset.oneOther
  simp only [List.isEmpty_nil, bind_assoc]
  unfold Builtin.Frozenset.addrOf setAdd
  refine wpAny_bind (wpAny_pure ?_)
  try dsimp only
  refine wpAny_bind (wpAny_pure ?_)
  try dsimp only
  refine wpAny_bind ?_
  refine wpAny_holding ?_
  refine wpAny_bind ((strKind P w).pyHash hkey ?_)
  have done : ∀ (b : Bool) h', Heap.SameBut a s.heap h' → SetT P w NS h' a → wpAny (model P w) A.in1 (ret Value.none) (fun fin s' => ∃ v, fin = .done (.ret v) ∧ Q v s') E { s with heap := h', toks := s.toks + 1 } := fun b h' sb r => wpAny_pure ⟨_, rfl, hQ h' sb r⟩
  unfold setAddHashed setAddHashedIn
  refine wpAny_holding (wpAny_bind (wpAny_setState_of (s := { s with toks := s.toks + 1 }) ho hd hf ?_))
  dsimp only
  rw [byScan_of hsc hb hel]
  simp only [↓reduceIte]
  unfold setAddByScan
  refine wpAny_bind ?_
  refine wpAny_bind (wpAny_rule ?_)
  refine wpAny_bind (wpAny_setScan_of (s := { s with toks := s.toks + 1 }) hkey ho hd hf hel ?_)
  cases hfi : List.findIdx? (fun e => (strKind P w).is x e.2) es.toList with
  | some j =>
    dsimp only
    refine wpAny_pure (wpAny_pure ?_)
    exact done true s.heap (Heap.SameBut.refl a s.heap) ⟨o, es, ep, t, ho, hex, hd, g, nd, hf, hr, hl⟩
  | none =>
    dsimp only
    have hnk : x ∉ es.toList.map keyT := fun z => by
      obtain ⟨e, he, q⟩ := List.mem_map.mp z
      have c := List.findIdx?_eq_none_iff.mp hfi e he
      rw [(goodT_is (g e he) x).mpr q] at c
      cases c
    have hgw : ∀ (b : Bool) {s₁ : Shared} {Q' : Unit → Shared → Prop} {A' : Around}, Q' () s₁ → wpAny (model P w) A' (match b with | true => rule "set.scan.the-table-gave-way" | false => pure ()) Q' E s₁ :=
      fun b s₁ Q' A' q => by cases b <;> first | exact wpAny_pure q | exact wpAny_rule q
    have pm := layNew_perm t es ((strKind P w).hash x) (.str x tk)
    have hf1 := layNew_fits t es ((strKind P w).hash x) (.str x tk)
    have hr1 := layNew_ris t es ((strKind P w).hash x) (.str x tk) hr
    have hl1 := layNew_led t es ((strKind P w).hash x) (.str x tk)
    generalize layNew t es ((strKind P w).hash x) (.str x tk) = Z at pm hf1 hr1 hl1 ⊢
    obtain ⟨es1, t1, wasDummy, gave⟩ := Z
    dsimp only at pm hf1 hr1 hl1 ⊢
    rw [Array.toList_push] at pm
    have pc : es1.toList.Perm (((strKind P w).hash x, Value.str x tk) :: es.toList) := pm.trans (List.perm_append_singleton _ _)
    have g1 : ∀ e ∈ es1.toList, GoodT P w NS e := fun e he => by
      rcases List.mem_cons.mp (pc.mem_iff.mp he) with z | z
      · rw [z]; exact ⟨x, tk, rfl, rfl, hx⟩
      · exact g e z
    have nd1 : (es1.toList.map keyT).Nodup := (pc.map keyT).nodup_iff.mpr (List.nodup_cons.mpr ⟨hnk, nd⟩)
    have hb1 : es1.size < scanBound := by
      rw [← Array.length_toList, pc.length_eq, List.length_cons]
      exact Nat.lt_of_le_of_lt (show _ ≤ 21 by omega) (by decide)
    have hled : w.params.followText "set-order" = true ∨ t1.led = true := hl.imp id fun z => by rw [hl1]; exact z
    refine wpAny_bind (hgw _ ?_)
    split
    · refine wpAny_bind ?_
      rw [hashByValue_scannable 8 hsc]
      refine wpAny_pure ?_
      refine setT_tail (s := { s with toks := s.toks + 1 }) ?_ ho hex hd g1 nd1 hb1 ?_ ?_ ?_ ?_
      · intro b s₁ Q' q; cases b <;> first | exact wpAny_pure q | exact wpAny_rule q
      · first | (split <;> first | exact hf1 | exact SetTable.fits_plain_off hf1) | exact hf1
      · first | (split <;> exact hr1) | exact hr1
      · first | (split <;> exact hled) | exact hled
      · intro h' sb r; dsimp only; exact wpAny_pure (done true h' sb r)
    · refine wpAny_bind (wpAny_pure ?_)
      simp only [↓reduceIte]
      refine setT_tail (s := { s with toks := s.toks + 1 }) ?_ ho hex hd g1 nd1 hb1 hf1 hr1 hled ?_
      · intro b s₁ Q' q; cases b <;> first | exact wpAny_pure q | exact wpAny_rule q
      · intro h' sb r; dsimp only; exact wpAny_pure (done true h' sb r)
end
theorem setT_fresh {P : Program} {NS : List Str} {h : Heap} (w : World) : SetT P w NS (h.push { cls := .type "set", dict := none, data := .set #[] 0 (.fresh 0 0 (!w.params.followText "set-order")) }) h.objs.size :=
  ⟨_, #[], 0, _, Heap.get?_push_size _ rfl, ⟨rfl, rfl, rfl⟩, rfl, (fun e he => by simp at he), (by simp), (by rfl), List.Pairwise.nil, by
    show _ ∨ (!w.params.followText "set-order") = true
    cases w.params.followText "set-order"
    · exact .inr rfl
    · exact .inl rfl⟩
/-- as a tracked thing -/
def SetTO (P : Program) (w : World) (NS : List Str) (a : Addr) : HO := .ext fun h => SetT P w NS h a
theorem setTO_new {P P' : Program} {w w' : World} {NS : List Str} {H : Hp} {h : Heap} {a : Addr} (R : SetT P w NS h a) : ObjOk P' w' H h a (SetTO P w NS a) := by
  have ⟨o, _, _, _, ho, _⟩ := R
  exact ⟨R, ⟨o, ho⟩, fun h1 h2 p k => SetT.at p k⟩
theorem upd_self {H : Hp} {a : Addr} {o : HO} (h : H a = some o) : upd H a o = H := funext fun b => by
  by_cases e : b = a
  · rw [e, upd_same, h]
  · rw [upd_ne e]
section
variable {X : Cx} {NS : List Str}
theorem addT_ok {pins : List (Addr × Obj)} {σ : L2.St} {H : Hp} {s : Shared} {E : Value → Shared → Prop} {D : Addr} {x : Str} {u : Value} {Q : Value → Shared → Prop} (I : Inv X pins σ H s) (hD : H D = some (SetTO X.prog X.w NS D)) (r : RelV (.str x) u) (hx : x ∈ NS) (room : NS.length ≤ 20)
    (h : ∀ s', Inv X pins σ H s' → Q .none s') : wpAny (model X.prog X.w) X.A (call (.builtin "set.add") [.ref D, u]) Q E s := by
  have R : SetT X.prog X.w NS s.heap D := (I.hok D _ hD).1
  obtain ⟨tk, rfl⟩ := (show ∃ t, u = Value.str x t from r)
  refine setT_add R hx room fun h' sb new => ?_
  have he : ∃ u, h'.get? D = some u := by
    have ⟨o, _, _, _, ho, _⟩ := new
    exact ⟨o, ho⟩
  have I2 := I.write (e := D) (t' := s.toks + 1) (by rw [hD]; trivial) (.inl rfl) (fun b u hb hu => (sb.2 b hb).trans hu) he (setTO_new (P' := X.prog) (w' := X.w) new)
  rw [upd_self hD] at I2
  exact h _ I2
end
/-! ### {elt for t0 in i0 for t1 in i1} -/
theorem scTurn_out (elt t0 i0 t1 i1 : Expr) (scope : Scope) (pos : Pos) (it acc : Value) (env : Env) :
    compTurn (.SetComp elt [⟨t0, i0, [], 0⟩, ⟨t1, i1, [], 0⟩] scope pos) 0 it acc env = (do
      standAt i0.pos
      match ← pyNext it with
      | none => pure (.done .next)
      | some v =>
        letOwnedTupleGo t0 it v
        assign t0 env v
        let mut ok := true
        for c in ([] : List Expr) do
          if ok then ok ← isTrue c env (eval c env)
        if ok then
          let x ← eval i1 env
          standAt i1.pos
          let x ← foldedSetIterable i1 env x
          let _ ← runOwn (.compStart (.SetComp elt [⟨t0, i0, [], 0⟩, ⟨t1, i1, [], 0⟩] scope pos) 1 (← holding [x] (pyIter x)) acc env) env
        again (.compLoop (.SetComp elt [⟨t0, i0, [], 0⟩, ⟨t1, i1, [], 0⟩] scope pos) 0 it acc env)) := by rfl
theorem scTurn_in (elt t0 i0 t1 i1 : Expr) (scope : Scope) (pos : Pos) (it acc : Value) (env : Env) :
    compTurn (.SetComp elt [⟨t0, i0, [], 0⟩, ⟨t1, i1, [], 0⟩] scope pos) 1 it acc env = (do
      standAt i1.pos
      match ← pyNext it with
      | none => pure (.done .next)
      | some v =>
        letOwnedTupleGo t1 it v
        assign t1 env v
        let mut ok := true
        for c in ([] : List Expr) do
          if ok then ok ← isTrue c env (eval c env)
        if ok then
          (do let v ← eval elt env; standAt elt.pos; let _ ← call (.builtin "set.add") [acc, v])
        again (.compLoop (.SetComp elt [⟨t0, i0, [], 0⟩, ⟨t1, i1, [], 0⟩] scope pos) 1 it acc env)) := by rfl
section
variable {prog : Program} {w : World} {A : Around} {R : Result → Shared → Prop} {s : Shared} {elt t0 i0 t1 i1 : Expr} {scope : Scope} {pos : Pos} {it acc : Value} {env : Env}
theorem scLoop_out (hs : ∀ x, foldedSetIterable i1 env x = pure x) (I : Nat → Shared → Prop)
    (turn : ∀ n s, I n s → wpAny (model prog w) A (pyNext it) (fun r s₁ => match r with
      | none => R (.ok .next) s₁
      | some v => wpAny (model prog w) A (letOwnedTupleGo t0 it v) (fun _ s₁' => wpAny (model prog w) A (assign t0 env v) (fun _ s₂ =>
          wpAny (model prog w) A (eval i1 env) (fun x s₄ => wpAny (model prog w) A (pyIter x) (fun it1 s₅ =>
              codeAny (model prog w) A (.compStart (.SetComp elt [⟨t0, i0, [], 0⟩, ⟨t1, i1, [], 0⟩] scope pos) 1 it1 acc env) (fun r s' => match r with
                | .ok _ => ∃ m, m < n ∧ I m s'
                | .error _ => False) s₅) (notedBy (model prog w) A env fun e s' => R (.error e) s') s₄) (notedBy (model prog w) A env fun e s' => R (.error e) s') s₂)
          (notedBy (model prog w) A env fun e s' => R (.error e) s') s₁') (notedBy (model prog w) A env fun e s' => R (.error e) s') s₁) (notedBy (model prog w) A env fun e s' => R (.error e) s') s)
    (n : Nat) (h : I n s) :
    codeAny (model prog w) A (.compLoop (.SetComp elt [⟨t0, i0, [], 0⟩, ⟨t1, i1, [], 0⟩] scope pos) 0 it acc env) R s := by
  refine codeAny_loop rfl I (fun n s hI => ?_) n h
  show wpAny _ A ((compTurn (.SetComp elt [⟨t0, i0, [], 0⟩, ⟨t1, i1, [], 0⟩] scope pos) 0 it acc env).onRaise (fun x => do noteFrame x env; theTreesLotGoes x)) _ _ s
  refine wpAny_noted ?_
  rw [scTurn_out]
  refine wpAny_bind (wpAny_standAt (wpAny_bind (wpAny_mono (turn n s hI) (fun r s₁ h₁ => ?_) fun _ _ h' => h')))
  cases r with
  | none => exact wpAny_pure h₁
  | some v =>
    refine wpAny_bind (wpAny_mono h₁ (fun _ s₁' h₁' => ?_) fun _ _ h' => h')
    refine wpAny_bind (wpAny_mono h₁' (fun _ s₂ h₂ => wpAny_bind (wpAny_pure ?_)) fun _ _ h' => h')
    refine wpAny_bind (wpAny_mono h₂ (fun x s₄ h₄ => ?_) fun _ _ h' => h')
    refine wpAny_bind (wpAny_standAt (wpAny_bind (wpAny_of_eq (hs x) (wpAny_bind (wpAny_holding (wpAny_mono h₄ (fun it1 s₅ h₅ => ?_) fun _ _ h' => h'))))))
    refine wpAny_bind (wpAny_runOwn ?_)
    rw [Around.mark_none]
    refine codeAny_mono h₅ fun r s' hr => ?_
    cases r with
    | ok f =>
      first
        | exact wpAny_pure ⟨rfl, hr⟩
        | exact wpAny_bind (wpAny_pure (wpAny_pure ⟨rfl, hr⟩))
    | error e => exact hr.elim
theorem scLoop_in (I : Nat → Shared → Prop)
    (turn : ∀ n s, I n s → wpAny (model prog w) A (pyNext it) (fun r s₁ => match r with
      | none => R (.ok .next) s₁
      | some v => wpAny (model prog w) A (letOwnedTupleGo t1 it v) (fun _ s₁' => wpAny (model prog w) A (assign t1 env v) (fun _ s₂ =>
          wpAny (model prog w) A (eval elt env) (fun x s₄ =>
              wpAny (model prog w) A (call (.builtin "set.add") [acc, x]) (fun _ s₅ => ∃ m, m < n ∧ I m s₅) (notedBy (model prog w) A env fun e s' => R (.error e) s') s₄) (notedBy (model prog w) A env fun e s' => R (.error e) s') s₂)
          (notedBy (model prog w) A env fun e s' => R (.error e) s') s₁') (notedBy (model prog w) A env fun e s' => R (.error e) s') s₁) (notedBy (model prog w) A env fun e s' => R (.error e) s') s)
    (n : Nat) (h : I n s) :
    codeAny (model prog w) A (.compLoop (.SetComp elt [⟨t0, i0, [], 0⟩, ⟨t1, i1, [], 0⟩] scope pos) 1 it acc env) R s := by
  refine codeAny_loop rfl I (fun n s hI => ?_) n h
  show wpAny _ A ((compTurn (.SetComp elt [⟨t0, i0, [], 0⟩, ⟨t1, i1, [], 0⟩] scope pos) 1 it acc env).onRaise (fun x => do noteFrame x env; theTreesLotGoes x)) _ _ s
  refine wpAny_noted ?_
  rw [scTurn_in]
  refine wpAny_bind (wpAny_standAt (wpAny_bind (wpAny_mono (turn n s hI) (fun r s₁ h₁ => ?_) fun _ _ h' => h')))
  cases r with
  | none => exact wpAny_pure h₁
  | some v =>
    refine wpAny_bind (wpAny_mono h₁ (fun _ s₁' h₁' => ?_) fun _ _ h' => h')
    refine wpAny_bind (wpAny_mono h₁' (fun _ s₂ h₂ => wpAny_bind (wpAny_pure ?_)) fun _ _ h' => h')
    exact wpAny_bind (wpAny_bind (wpAny_mono h₂ (fun x s₄ h₄ => wpAny_bind (wpAny_standAt (wpAny_bind (wpAny_mono h₄ (fun _ s₅ h₅ => wpAny_pure (wpAny_pure ⟨rfl, h₅⟩)) fun _ _ h' => h')))) fun _ _ h' => h'))
theorem scStart1 (h0 : codeAny (model prog w) A (.compLoop (.SetComp elt [⟨t0, i0, [], 0⟩, ⟨t1, i1, [], 0⟩] scope pos) 1 it acc env) R s)
    (h : wpAny (model prog w) A (pyIter it) (fun it' s' => codeAny (model prog w) A (.compLoop (.SetComp elt [⟨t0, i0, [], 0⟩, ⟨t1, i1, [], 0⟩] scope pos) 1 it' acc env) R s')
      (notedBy (model prog w) A env fun x s' => R (.error x) s') s) :
    codeAny (model prog w) A (.compStart (.SetComp elt [⟨t0, i0, [], 0⟩, ⟨t1, i1, [], 0⟩] scope pos) 1 it acc env) R s := by
  refine codeAny_of_tree ?_
  show wpAny _ _ ((compStart (.SetComp elt [⟨t0, i0, [], 0⟩, ⟨t1, i1, [], 0⟩] scope pos) 1 it acc env).onRaise (fun x => do noteFrame x env; standAt theWindowsPlace)) _ _ s
  refine wpAny_notedAt ?_
  unfold compStart
  show wpAny _ _ (ask >>= _) _ _ s
  refine wpAny_bind (wpAny_askSetting (wpAny_ite ?_))
  split
  · first
      | exact wpAny_bind (wpAny_pure (wpAny_pure (And.intro rfl h0)))
      | exact wpAny_pure (And.intro rfl h0)
  · first
      | exact wpAny_bind (wpAny_rule (wpAny_bind (wpAny_standAt (wpAny_bind (wpAny_mono h (fun it' s' h' => wpAny_pure (And.intro rfl h')) fun _ _ x => x)))))
      | (refine wpAny_bind (wpAny_rule ?_); show wpAny _ _ (standAt i1.pos >>= _) _ _ s; exact wpAny_bind (wpAny_standAt (wpAny_bind (wpAny_mono h (fun it' s' h' => wpAny_pure (And.intro rfl h')) fun _ _ x => x))))
end
end E97
set_option Elab.async false
set_option linter.all false
set_option maxRecDepth 100000
set_option maxHeartbeats 4000000
/-! E97Y: the set comprehension with two clauses as a rule; sorted of it. -/
namespace E97
open PySem PySem.Spec PyProof.Rows L2 Evl PpSet
/-- D: the new set, its members in NS -/
def tSc2 (P : Program) (w : World) (NS : List Str) (wi : TI) (g : TG) (wi1 : TI) (g1 : TG) (te : TE) (vs vs1 : List Nat) : TE := fun σ H Q => NS.length ≤ 20 ∧ wi σ H fun J H1 => ∀ D, H1 D = none → ∃ W : Nat → Nat → Hp → Prop, (∃ m, W 0 m (upd H1 D (SetTO P w NS D))) ∧ ∀ i m H, W i m H →
  (J.stop i H ∧ Q (.ref D) H) ∨ (J.go i H ∧ ∃ Nx : Hp → Prop, (∀ H', Nx H' → ∃ m', m' < m ∧ W (i + 1) m' H') ∧ ∀ x H', J.yld i H x H' → g x (wipe σ vs) H' fun σ2 H2 => wipe σ2 vs = wipe σ vs ∧
    wi1 σ2 H2 fun J1 H4 => ∃ W1 : Nat → Nat → Hp → Prop, (∃ m, W1 0 m H4) ∧ ∀ j k H, W1 j k H →
      (J1.stop j H ∧ Nx H) ∨ (J1.go j H ∧ ∃ Nx1 : Hp → Prop, (∀ H', Nx1 H' → ∃ k', k' < k ∧ W1 (j + 1) k' H') ∧ ∀ x H', J1.yld j H x H' → g1 x (wipe σ2 vs1) H' fun σ3 H5 => wipe σ3 vs1 = wipe σ2 vs1 ∧
        te σ3 H5 fun y H7 => ∃ z : Str, y = .str z ∧ z ∈ NS ∧ H7 D = some (SetTO P w NS D) ∧ Nx1 H7))
section
variable {X : Cx} {NS : List Str}
theorem sc2_core {pins : List (Addr × Obj)} {s : Shared} {σ : L2.St} {H : Hp} {Q : VK} {elt tg iter tg1 iter1 : Expr} {scope : Scope} {own : List (Str × Nat)} {vs1 : List Nat} {pos pos' : Pos} {wi wi1 : TI} {g g1 : TG} {te : TE} {use : Option (Value → Sem Unit)} {Qf : Value → Shared → Prop}
    (hc : X.calm = true) (hN : X.N.Nodup) (I : Inv X pins σ H s) (hi : PI X tg iter wi) (ok : BlkOk X.N X.env.scope scope own) (hv : ∀ i ∈ vs1, i ∈ own.map (·.2))
    (hg : ∀ (s : Shared) (H : Hp) (C : Addr) (cl : List (Str × Addr)) (fp : List Addr), PG (X.blk s H scope (compEnvC scope cl C X.env) fp) tg g)
    (he : ∀ (s : Shared) (H : Hp) (C : Addr) (cl : List (Str × Addr)) (fp : List Addr), PE (X.blk s H scope (compEnvC scope cl C X.env) fp) elt te) (hs : ∀ x, foldedSetIterable iter X.env x = pure x)
    (hi1 : ∀ (s : Shared) (H : Hp) (C : Addr) (cl : List (Str × Addr)) (fp : List Addr), PI (X.blk s H scope (compEnvC scope cl C X.env) fp) tg1 iter1 wi1)
    (hg1 : ∀ (s : Shared) (H : Hp) (C : Addr) (cl : List (Str × Addr)) (fp : List Addr), PG (X.blk s H scope (compEnvC scope cl C X.env) fp) tg1 g1)
    (hs1 : ∀ env x, foldedSetIterable iter1 env x = pure x)
    (h : tSc2 X.prog X.w NS wi g wi1 g1 te (own.map (·.2)) vs1 σ H Q)
    (hRR : ∀ D C s' m H', Inv X pins σ H' s' → Q (.ref D) H' → s'.heap.Ns C m → FpOk X pins H' C → compPost (model X.prog X.w) X.A X.xe use Qf (.ref D) C (.ok .next) s') :
    wpAny (model X.prog X.w) X.A (comprehension (.SetComp elt [⟨tg, iter, [], 0⟩, ⟨tg1, iter1, [], 0⟩] scope pos) scope X.env pos' (newSet (.type "set")) false (eval iter X.env) use) Qf X.xe s := by
  obtain ⟨h20, h⟩ := h
  have hfree : ∀ y ∈ scope.names, y.2 = .free → ∃ c, X.env.cells.lookup y.1 = some c := fun y hy e => by
    rcases ok.free y hy e with k | k
    · exact I.ok.has _ (.inl k)
    · exact I.ok.has _ (.inr k)
  refine wpAny_comprehension_free (use := use) rfl hs (closure_ok hfree) ok.kind (fun y hy e => by rw [ok.uniq y hy, e])
    (thn (hi.run pins s σ H _ I h) fun xv s1 hx => thn hx fun itv s2 h2 => ?_)
  obtain ⟨it, fp, tn, J, H2, e, I2, T, st2, f2, q⟩ := h2
  subst e
  refine newSet_ok (newEnv_comp ?_)
  generalize hD : s2.heap.objs.size = D
  have hDn : H2 D = none := I2.hok.fresh (Nat.le_of_eq hD)
  obtain ⟨W, ⟨m0, w0⟩, turn⟩ := q D hDn
  generalize hs3 : ({ s2 with heap := s2.heap.push { cls := .type "set", dict := none, data := .set #[] 0 (.fresh 0 0 (!X.w.params.followText "set-order")) } } : Shared) = s3
  have I3 : Inv X pins σ (upd H2 D (SetTO X.prog X.w NS D)) s3 := by
    rw [← hs3]
    refine I2.laid (t' := s2.toks) (fun b o e => Heap.get?_push_of_some _ e) (Nat.le_of_eq hD) ?_
    rw [← hD]
    exact setTO_new (setT_fresh X.w)
  have h3 : s3.heap = s2.heap.push { cls := .type "set", dict := none, data := .set #[] 0 (.fresh 0 0 (!X.w.params.followText "set-order")) } := by rw [← hs3]
  have sz : ∀ b ∈ fp, b < s2.heap.objs.size := fun b hb => by
    obtain ⟨o, e, _⟩ := T.obj _ _ st2 b hb
    exact Heap.lt_size e
  have f3 : ∀ b ∈ fp, FpOk X pins (upd H2 D (SetTO X.prog X.w NS D)) b ∧ b < s3.heap.objs.size := fun b hb => by
    have hlt := sz b hb
    refine ⟨⟨?_, (f2 b hb).2⟩, by rw [h3, Heap.size_push]; exact Nat.lt_succ_of_lt hlt⟩
    rw [upd_ne (by rw [← hD]; exact Nat.ne_of_lt hlt)]
    exact (f2 b hb).1
  have st3 : tn 0 s3.heap := T.keep _ _ _ st2 fun b _ o e => by rw [h3]; exact Heap.get?_push_of_some _ e
  have I4 := block_start I3 ok hN f3
  have pg := hg s3 (upd H2 D (SetTO X.prog X.w NS D)) s3.heap.objs.size (cellsFrom (s3.heap.objs.size + 1) scope.names (cloFrom X.env.cells scope.names [])) fp
  have pe := he s3 (upd H2 D (SetTO X.prog X.w NS D)) s3.heap.objs.size (cellsFrom (s3.heap.objs.size + 1) scope.names (cloFrom X.env.cells scope.names [])) fp
  have pi1 := hi1 s3 (upd H2 D (SetTO X.prog X.w NS D)) s3.heap.objs.size (cellsFrom (s3.heap.objs.size + 1) scope.names (cloFrom X.env.cells scope.names [])) fp
  have pg1 := hg1 s3 (upd H2 D (SetTO X.prog X.w NS D)) s3.heap.objs.size (cellsFrom (s3.heap.objs.size + 1) scope.names (cloFrom X.env.cells scope.names [])) fp
  show codeAny _ _ (.compStart (.SetComp elt [⟨tg, iter, [], 0⟩, ⟨tg1, iter1, [], 0⟩] scope pos) 0 (.ref it) (.ref D) (compEnvC scope (cellsFrom (s3.heap.objs.size + 1) scope.names (cloFrom X.env.cells scope.names [])) s3.heap.objs.size X.env)) (compPost (model X.prog X.w) X.A X.xe use Qf (.ref D) s3.heap.objs.size) { s3 with heap := pushCells (s3.heap.push { cls := .type "dict", data := .dict #[] }) scope.names }
  have nfp : ∀ b ∈ fp, (upd H2 D (SetTO X.prog X.w NS D)) b = none := fun b hb => (f3 b hb).1.1
  generalize hce : compEnvC scope (cellsFrom (s3.heap.objs.size + 1) scope.names (cloFrom X.env.cells scope.names [])) s3.heap.objs.size X.env = ce at I4 pg pe pi1 pg1 ⊢
  have cL : ce.locals = s3.heap.objs.size := by subst hce; rfl
  generalize hH3 : upd H2 D (SetTO X.prog X.w NS D) = H3 at I3 I4 pg pe pi1 pg1 w0 nfp f3
  generalize hs4 : ({ s3 with heap := pushCells (s3.heap.push { cls := .type "dict", data := .dict #[] }) scope.names } : Shared) = s4 at I4 ⊢
  have st4 : tn 0 s4.heap := T.keep _ _ _ st3 fun b _ o e => by rw [← hs4]; exact pushCells_keeps _ _ _ _ (Heap.get?_push_of_some _ e)
  have stat : ∀ {σ' : L2.St} {H' : Hp} {s' : Shared}, Inv (X.blk s3 H3 scope ce fp) [] σ' H' s' → (∀ b ∈ fp, H' b = none) → ∀ b ∈ fp, FpOk (X.blk s3 H3 scope ce fp) [] H' b := fun {σ' H' s'} I' hn b hb =>
    ⟨hn b hb, (I'.ok.exf b hb).1, I'.ok.exfs b hb, .inl hb, fun x c e => (I'.ok.exf b hb).2 x c e, fun p hp => absurd (show p ∈ ([] : List (Addr × Obj)) ++ [] from hp) (by simp)⟩
  have loop : codeAny (model X.prog X.w) X.A (.compLoop (.SetComp elt [⟨tg, iter, [], 0⟩, ⟨tg1, iter1, [], 0⟩] scope pos) 0 (.ref it) (.ref D) ce) (compPost (model X.prog X.w) X.A X.xe use Qf (.ref D) s3.heap.objs.size) s4 := by
    refine scLoop_out (hs1 ce) (fun n s' => ∃ i H', Inv (X.blk s3 H3 scope ce fp) [] (wipe σ (own.map (·.2))) H' s' ∧ tn i s'.heap ∧ (∀ b ∈ fp, H' b = none) ∧ W i n H') ?_ m0 ⟨0, H3, I4, st4, nfp, w0⟩
    rintro n s5 ⟨i, H5, I5, st5, n5, w5⟩
    rcases turn i n H5 w5 with ⟨stop, qq⟩ | ⟨go, Nx, hNx, step⟩
    · have td := T.done (X.blk s3 H3 scope ce fp) rfl rfl rfl hc i [] s5 _ H5 (fun _ _ => False) I5 (stat I5 n5) st5 stop
      refine thnF td fun r s6 ⟨hr, I6⟩ => ?_
      subst hr
      have I7 : Inv X pins σ H5 s6 := I3.call' (ch := fp) I6.os I6.base I6.hok I6.bare fun b hb => ⟨(f3 b hb).1.2.2.2.1, (f3 b hb).1.2.1, (f3 b hb).1.2.2.2.2.1, (f3 b hb).1.2.2.2.2.2⟩
      have nC : H5 s3.heap.objs.size = none := by
        have z : H5 ce.locals = none := I6.free
        rw [cL] at z
        exact z
      obtain ⟨m, hn, _⟩ := I6.loc
      have hn : s6.heap.Ns ce.locals m := hn
      rw [cL] at hn
      exact hRR D s3.heap.objs.size s6 m H5 I7 qq hn (I3.fpOk (Nat.le_refl _) nC)
    · have ti := T.item (X.blk s3 H3 scope ce fp) rfl rfl rfl hc i [] s5 _ H5 (fun _ _ => False) I5 (stat I5 n5) st5 go
      refine thnF ti fun r s6 ⟨u, hr, h6⟩ => ?_
      subst hr
      refine thnF h6 fun _ s7 ⟨x, H7, I7, r7, y7, st7, n7⟩ => ?_
      have I7' := I7.pinned (stat I7 n7) (T.obj _ _ st7)
      refine thnF (pg.run _ s7 _ H7 x u _ I7' r7 (step x H7 y7)) fun _ s8 ⟨σ8, H8, I8, hw8, q8⟩ => ?_
      have fin : ∀ {σ9 : L2.St} {s' : Shared} {H' : Hp}, Inv (X.blk s3 H3 scope ce fp) ([] ++ pinsAt fp s7.heap) σ9 H' s' → (wipe σ (own.map (·.2))).length = σ9.length → (∀ (j : Nat) v, (wipe σ (own.map (·.2)))[j]? = some (some v) → σ9[j]? = some (some v)) → Nx H' →
          ∃ m, m < n ∧ ∃ i H', Inv (X.blk s3 H3 scope ce fp) [] (wipe σ (own.map (·.2))) H' s' ∧ tn i s'.heap ∧ (∀ b ∈ fp, H' b = none) ∧ W i m H' := fun {σ9 s' H'} I' hl hk nx => by
        obtain ⟨m', hm, w'⟩ := hNx H' nx
        have pin' : ∀ b ∈ fp, ∀ o, s7.heap.get? b = some o → s'.heap.get? b = some o ∧ H' b = none := fun b hb o e =>
          let z := I'.pin (b, o) (List.mem_append_right _ (List.mem_append_right _ (mem_pinsAt hb e)))
          ⟨z.1, z.2.1⟩
        refine ⟨m', hm, i + 1, H', (I'.unpinned (pins := [])).weak hl hk, T.keep _ _ _ st7 fun b hb o e => (pin' b hb o e).1, fun b hb => ?_, w'⟩
        obtain ⟨o, e, _⟩ := T.obj _ _ st7 b hb
        exact (pin' b hb o e).2
      have hl8 : (wipe σ (own.map (·.2))).length = σ8.length := by rw [← hw8, wipe_length]
      have hk9 : ∀ (j : Nat) v, (wipe σ (own.map (·.2)))[j]? = some (some v) → (wipe σ8 vs1)[j]? = some (some v) := fun j v e => by
        rw [← hw8] at e
        obtain ⟨e1, e2⟩ := wipe_some e
        rw [wipe_out fun z => e2 (hv j z)]
        exact e1
      refine thnF (pi1.run _ s8 σ8 H8 _ I8 q8) fun xv s10 hx => thnF hx fun itv s11 h11 => ?_
      obtain ⟨it1, fp1, tn1, J1, H11, e1, I11, T1, st11, f11, W1, ⟨m1, w1⟩, turn1⟩ := h11
      subst e1
      have stat1 : ∀ {H' : Hp}, (∀ b ∈ fp1, H' b = none) → ∀ b ∈ fp1, FpOk (X.blk s3 H3 scope ce fp) ([] ++ pinsAt fp s7.heap) H' b := fun hn b hb => ⟨hn b hb, (f11 b hb).2⟩
      have loop1 : codeAny (model X.prog X.w) X.A (.compLoop (.SetComp elt [⟨tg, iter, [], 0⟩, ⟨tg1, iter1, [], 0⟩] scope pos) 1 (.ref it1) (.ref D) ce)
          (fun r s' => match r with
            | .ok _ => ∃ m, m < n ∧ ∃ i H', Inv (X.blk s3 H3 scope ce fp) [] (wipe σ (own.map (·.2))) H' s' ∧ tn i s'.heap ∧ (∀ b ∈ fp, H' b = none) ∧ W i m H'
            | .error _ => False) s11 := by
        refine scLoop_in (fun k s' => ∃ j H', Inv (X.blk s3 H3 scope ce fp) ([] ++ pinsAt fp s7.heap) (wipe σ8 vs1) H' s' ∧ tn1 j s'.heap ∧ (∀ b ∈ fp1, H' b = none) ∧ W1 j k H') ?_ m1 ⟨0, H11, I11.weak (wipe_length _ _) (fun j v e => (wipe_some e).1), st11, fun b hb => (f11 b hb).1, w1⟩
        rintro k s12 ⟨j, H12, I12, st12, n12, w12⟩
        rcases turn1 j k H12 w12 with ⟨stop1, nx1⟩ | ⟨go1, Nx1, hNx1, step1⟩
        · refine thnF (T1.done (X.blk s3 H3 scope ce fp) rfl rfl rfl hc j _ s12 (wipe σ8 vs1) H12 (fun _ _ => False) I12 (stat1 n12) st12 stop1) fun r s13 ⟨hr, I13⟩ => ?_
          subst hr
          exact fin I13 (hl8.trans (wipe_length σ8 vs1).symm) hk9 nx1
        · refine thnF (T1.item (X.blk s3 H3 scope ce fp) rfl rfl rfl hc j _ s12 (wipe σ8 vs1) H12 (fun _ _ => False) I12 (stat1 n12) st12 go1) fun r s13 ⟨u1, hr, h13⟩ => ?_
          subst hr
          refine thnF h13 fun _ s14 ⟨x1, H14, I14, r14, y14, st14, n14⟩ => ?_
          have I14' := I14.pinned (stat1 n14) (T1.obj _ _ st14)
          refine thnF (pg1.run _ s14 (wipe σ8 vs1) H14 x1 u1 _ I14' r14 (step1 x1 H14 y14)) fun _ s15 ⟨σ15, H15, I15, hw15, q15⟩ => ?_
          have fin1 : ∀ {s' : Shared} {H' : Hp}, Inv (X.blk s3 H3 scope ce fp) (([] ++ pinsAt fp s7.heap) ++ pinsAt fp1 s14.heap) σ15 H' s' → Nx1 H' → ∃ m, m < k ∧ ∃ j H', Inv (X.blk s3 H3 scope ce fp) ([] ++ pinsAt fp s7.heap) (wipe σ8 vs1) H' s' ∧ tn1 j s'.heap ∧ (∀ b ∈ fp1, H' b = none) ∧ W1 j m H' := fun {s' H'} I' nx => by
            obtain ⟨m', hm, w'⟩ := hNx1 H' nx
            have pin' : ∀ b ∈ fp1, ∀ o, s14.heap.get? b = some o → s'.heap.get? b = some o ∧ H' b = none := fun b hb o e =>
              let z := I'.pin (b, o) (List.mem_append_right _ (List.mem_append_right _ (mem_pinsAt hb e)))
              ⟨z.1, z.2.1⟩
            refine ⟨m', hm, j + 1, H', I'.unpinned.weak (by rw [← hw15, wipe_length]) (fun j v e => by rw [← hw15] at e; exact (wipe_some e).1), T1.keep _ _ _ st14 fun b hb o e => (pin' b hb o e).1, fun b hb => ?_, w'⟩
            obtain ⟨o, e, _⟩ := T1.obj _ _ st14 b hb
            exact (pin' b hb o e).2
          refine thnF (pe.run _ s15 σ15 H15 _ I15 q15) fun z s17 ⟨yv, H17, I17, r17, zs, ey, hz, hD17, nx⟩ => ?_
          subst ey
          exact addT_ok (X := X.blk s3 H3 scope ce fp) I17 hD17 r17 hz h20 fun s18 I18 => fin1 I18 nx
      exact scStart1 loop1 (T1.self X.A 0 _ _ _ st11 loop1)
  exact codeAny_compStart_set loop (T.self X.A 0 _ _ _ st4 loop)
theorem pe_sc2 {K : PySem.W.Frag} {P : Program} {w : World} (hP : X.prog = P) (hw : X.w = w) {elt tg iter tg1 iter1 : Expr} {scope : Scope} {own : List (Str × Nat)} {vs1 : List Nat} {pos : Pos} {wi wi1 : TI} {g g1 : TG} {te : TE} (hc : X.calm = true) (hN : X.N.Nodup) (hi : PI X tg iter wi) (ok : BlkOk X.N X.env.scope scope own) (hv : ∀ i ∈ vs1, i ∈ own.map (·.2))
    (hg : ∀ (s : Shared) (H : Hp) (C : Addr) (cl : List (Str × Addr)) (fp : List Addr), PG (X.blk s H scope (compEnvC scope cl C X.env) fp) tg g)
    (hi1 : ∀ (s : Shared) (H : Hp) (C : Addr) (cl : List (Str × Addr)) (fp : List Addr), PI (X.blk s H scope (compEnvC scope cl C X.env) fp) tg1 iter1 wi1)
    (hg1 : ∀ (s : Shared) (H : Hp) (C : Addr) (cl : List (Str × Addr)) (fp : List Addr), PG (X.blk s H scope (compEnvC scope cl C X.env) fp) tg1 g1)
    (he : ∀ (s : Shared) (H : Hp) (C : Addr) (cl : List (Str × Addr)) (fp : List Addr), PE (X.blk s H scope (compEnvC scope cl C X.env) fp) elt te) (hs : ∀ x, foldedSetIterable iter X.env x = pure x := by intro _; rfl) (hs1 : ∀ env x, foldedSetIterable iter1 env x = pure x := by intro _ _; rfl) :
    PE X (.SetComp elt [⟨tg, iter, [], 0⟩, ⟨tg1, iter1, [], 0⟩] scope pos) (tSc2 P w NS wi g wi1 g1 te (own.map (·.2)) vs1) := by
  subst hP hw
  refine ⟨fun pins s σ H Q I h => ?_⟩
  rw [eval_SetComp]
  refine sc2_core hc hN I hi ok hv hg he hs hi1 hg1 hs1 h fun D C s' m H' I' q hn f => ⟨m, hn, fun h'' sb => ?_⟩
  obtain ⟨f0, f1, f2, f3, f4, f5⟩ := f
  exact ⟨.ref D, H', I'.turned (t' := s'.toks) (fun b o hb e => (sb.2 b hb).trans e) f0 f1 f3 f4 f5, rfl, q⟩
/-- sorted(s), s such a set -/
def rSortT (P : Program) (w : World) (NS : List Str) : List V → Hp → VK → Prop := fun xs H Q => ∃ a : Addr, xs = [.ref a] ∧ NS.length ≤ 20 ∧ H a = some (SetTO P w NS a) ∧ ∀ (ys : List Str) p, ys.length ≤ 20 → H p = none → Q (.ref p) (upd H p (.lst (ys.map V.str)))
theorem strs_of : ∀ {vs : List Value}, (∀ v ∈ vs, ∃ x tk, v = Value.str x tk) → ∃ xs : List Str, StrsAre vs xs ∧ xs.length = vs.length
  | [], _ => ⟨[], .nil, rfl⟩
  | v :: vs, h => by
    obtain ⟨x, tk, rfl⟩ := h v List.mem_cons_self
    obtain ⟨xs, h1, h2⟩ := strs_of fun v hv => h v (List.mem_cons_of_mem _ hv)
    exact ⟨x :: xs, .cons x tk h1, congrArg Nat.succ h2⟩
theorem cr_sortT (hcalm : X.calm = true) : CallR X (.builtin "sorted") (rSortT X.prog X.w NS) := by
  intro pins s σ H xs us Q I r q
  obtain ⟨a, rfl, h20, ha, q⟩ := q
  rw [Vals.ref1 r]
  obtain ⟨o, es, ep, t, ho, hex, hd, g, nd, hf, hr, hl⟩ := (show SetT X.prog X.w NS s.heap a from (I.hok a _ ha).1)
  have hlen := goodT_few g nd
  have hb : es.size < scanBound := by
    rw [← Array.length_toList]
    exact Nat.lt_of_le_of_lt (show _ ≤ 20 by omega) (by decide)
  refine Calls.call_function_entry PyProof.Rows.kind_sorted PyProof.Rows.plain_sorted PyProof.Rows.entry_sorted (PyProof.Rows.args_sorted1 _) ?_
  unfold Builtin.«sorted»
  refine wpAny_bind (m := checkCount "sorted" 1 1 _) (wpAny_pure ?_)
  refine wpAny_bind (collect_set (A := X.A.in1) (I.ok.hd hcalm) ⟨o, ho, hex.1, hd⟩ hf hb hr hl fun s' out hk hz hg ho' hp => ?_)
  obtain ⟨xs, hS, hxl⟩ := strs_of (vs := out) fun v hv => by
    obtain ⟨e, he, rfl⟩ := List.mem_map.mp (hp.mem_iff.mp hv)
    obtain ⟨x, tk, h1, _⟩ := g e he
    exact ⟨x, tk, h1⟩
  have hol : out.length ≤ 20 := by rw [hp.length_eq, List.length_map]; omega
  have I1 : Inv X pins σ H s' := I.call' (ch := []) ho' (Un.kept hk) (I.hok.kept hk) (by rw [hg]; exact I.bare) (fun _ z => nomatch z)
  obtain ⟨h', gg, dd, tk, os⟩ := s'
  refine wpAny_bind (wpAny_newList ?_ (by rw [sizeLine_eq]; omega))
  have hoL : (h'.push (seqObj "list" out.toArray 0)).get? h'.objs.size = some (seqObj "list" out.toArray 0) := Heap.get?_push_size _ rfl
  refine wpAny_bind (wpAny_holding (wpAny_call_entry PyProof.Rows.slot_list_sort ⟨_, hoL, rfl⟩ PyProof.Rows.entry_list_sort
    (list_sort_treeK strKind_oneLt (s := { heap := h'.push (seqObj "list" out.toArray 0), gens := gg, drawn := dd, toks := tk, os := os }) hoL hS.keysOf (fun v₁ v₂ rest e => keyKind_strs (by rw [← e]; exact hS)) (by omega) fun st' hp' hs => ⟨_, rfl, ?_⟩)
    (PyProof.Rows.args_list_sort _)))
  obtain ⟨ys, g1, g2, g3⟩ := sorted_out_str hS hp' hs
  obtain ⟨e', he'⟩ := PyProof.Rows.sortedHeap_at (vs := out) (out := (arrOf st').map (·.2)) hoL
  have hyl : ys.length ≤ 20 := by rw [g2.length_eq, hxl]; exact hol
  have hlen : (ys.map V.str).length ≤ sizeLine := by
    rw [List.length_map]
    exact Nat.le_trans hyl (by decide)
  refine wpAny_pure ⟨_, rfl, .ref h'.objs.size, upd H h'.objs.size (.lst (ys.map V.str)), I1.laid (t' := tk) (fun b u e => ?_) (Nat.le_refl _)
    (show ObjOk X.prog X.w _ _ _ (.lst (ys.map V.str)) from ⟨hlen, ((arrOf st').map (·.2)).toList, e', vals_of_strs g1, by rw [Array.toArray_toList]; exact he'⟩), rfl, q ys _ hyl (I1.hok.fresh (Nat.le_refl _))⟩
  have hb : b < h'.objs.size := Heap.lt_size e
  rw [PyProof.Rows.sortedHeap_old (Nat.ne_of_lt hb) (by rw [size_push']; exact Nat.lt_succ_of_lt hb)]
  exact Heap.get?_push_of_some _ e
theorem kcr_sortT {P : Program} {w : World} (hP : X.prog = P) (hw : X.w = w) (hcalm : X.calm = true) : CallR X (.builtin "sorted") (rSortT P w NS) := by
  subst hP hw
  exact cr_sortT hcalm
end
end E97
set_option Elab.async false
set_option linter.all false
set_option maxRecDepth 100000
set_option maxHeartbeats 4000000
/-! E97D: written dicts with texts as keys, by a list of pairs. -/
namespace E97
open PySem PySem.Spec PyProof.Rows L2 Evl
def KTab (K : PySem.W.Frag) (w : World) (d : Addr) (kvs : List (Str × V)) : Prop := ∃ es n, KDict K w d es n ∧ ∀ x, ∃ r, PySem.W.nsIn K d x = some r ∧ RelO (kvs.lookup x) r
theorem key_none {P : Params} {x : Str} : ∀ {l : List DictEntry} {ks : List Str}, l.map He.keyOf = He.keysIn P ks → x ∉ ks → l.find? (·.key.isStr x) = none ∧ l.any (·.refKey) = false
  | [], _, _, _ => ⟨rfl, rfl⟩
  | e :: r, [], h, _ => by cases h
  | e :: r, k :: ks, h, hx => by
    obtain ⟨h1, h2⟩ := List.cons.inj (show He.keyOf e :: r.map He.keyOf = some (k, PyData.keyHash P k) :: He.keysIn P ks from h)
    obtain ⟨a1, a2⟩ := key_none h2 (fun z => hx (List.mem_cons_of_mem _ z))
    have hne : ¬ k = x := fun z => hx (z ▸ List.mem_cons_self)
    obtain ⟨ha, kk, va⟩ := e
    cases kk with
    | str y t =>
      have e1 : y = k := (Prod.mk.inj (Option.some.inj h1)).1
      subst e1
      refine ⟨?_, ?_⟩
      · rw [List.find?_cons_of_neg]
        · exact a1
        · show ¬ (y == x) = true
          rw [beq_iff_eq]
          exact hne
      · rw [List.any_cons, a2]
        rfl
    | _ => cases h1
theorem lookup_in {x : Str} {v : V} : ∀ {kvs : List (Str × V)}, kvs.lookup x = some v → (x, v) ∈ kvs
  | [], h => by cases h
  | (k, u) :: r, h => by
    unfold List.lookup at h
    split at h
    · rename_i e
      cases h
      rw [beq_iff_eq] at e
      subst e
      exact List.mem_cons_self
    · exact List.mem_cons_of_mem _ (lookup_in h)
theorem lookup_not {x : Str} : ∀ {kvs : List (Str × V)}, kvs.lookup x = none → x ∉ kvs.map (·.1)
  | [], _, h => by cases h
  | (k, u) :: r, h, hm => by
    unfold List.lookup at h
    split at h
    · cases h
    · rename_i e
      rcases List.mem_cons.mp hm with z | z
      · rw [beq_eq_false_iff_ne] at e
        exact e z
      · exact lookup_not h z
theorem ktab_of {K : PySem.W.Frag} {w : World} {d : Addr} {kvs : List (Str × He.Dv)} {ks : List Str} (t : ∃ es n, KDict K w d es n ∧ es.toList.map He.keyOf = He.keysIn w.params ks) (v : He.valsB K d kvs = true) (e : kvs.map (·.1) = ks) :
    KTab K w d (kvs.map fun q => (q.1, q.2.v K)) := by
  obtain ⟨es, n, D, hk⟩ := t
  refine ⟨es, n, D, fun x => ?_⟩
  cases hl : (kvs.map fun q => (q.1, q.2.v K)).lookup x with
  | some z =>
    obtain ⟨q, hq, ez⟩ := List.mem_map.mp (lookup_in hl)
    cases ez
    obtain ⟨u, h1, h2⟩ := He.valsB_ok v hq
    exact ⟨some u, h1, h2⟩
  | none =>
    have hn := lookup_not hl
    rw [List.map_map, show ((fun q : Str × V => q.1) ∘ fun q : Str × He.Dv => (q.1, q.2.v K)) = fun q => q.1 from rfl, e] at hn
    obtain ⟨a1, a2⟩ := key_none hk hn
    refine ⟨none, ?_, True.intro⟩
    unfold PySem.W.nsIn
    rw [D.at_]
    dsimp only
    rw [a1]
    dsimp only
    rw [a2]
    rfl
section
variable {X : Cx} {K : PySem.W.Frag} {w : World}
def rInKD (K : PySem.W.Frag) (w : World) : R2 := fun x y H Q => ∃ (q : Str) (d : Addr) (kvs : List (Str × V)), x = .str q ∧ y = .ref d ∧ KTab K w d kvs ∧ Q (.bl (kvs.lookup q).isSome) H
def rNiKD (K : PySem.W.Frag) (w : World) : R2 := fun x y H Q => ∃ (q : Str) (d : Addr) (kvs : List (Str × V)), x = .str q ∧ y = .ref d ∧ KTab K w d kvs ∧ Q (.bl (!(kvs.lookup q).isSome)) H
def rIxKD (K : PySem.W.Frag) (w : World) : R2 := fun x y H Q => ∃ (d : Addr) (q : Str) (kvs : List (Str × V)) (v : V), x = .ref d ∧ y = .str q ∧ KTab K w d kvs ∧ kvs.lookup q = some v ∧ Q v H
theorem relO_some {o : Option V} {r : Option Value} (h : RelO o r) : r.isSome = o.isSome := by
  cases o <;> cases r <;> first | rfl | exact h.elim
theorem op_inKD (hK : X.K = K) (hw : X.w = w) : OpR X (compareOp .In) (rInKD K w) := by
  subst hK hw
  intro pins s σ H x y v u Q I rx ry h
  obtain ⟨q, d, kvs, rfl, rfl, ⟨es, n, D, hr⟩, k⟩ := h
  obtain ⟨r, h1, h2⟩ := hr q
  exact op_in_kd D pins s σ H _ _ v u Q I rx ry ⟨q, r, rfl, rfl, h1, by rw [relO_some h2]; exact k⟩
theorem op_niKD (hK : X.K = K) (hw : X.w = w) : OpR X (compareOp .NotIn) (rNiKD K w) := by
  subst hK hw
  intro pins s σ H x y v u Q I rx ry h
  obtain ⟨q, d, kvs, rfl, rfl, ⟨es, n, D, hr⟩, k⟩ := h
  obtain ⟨r, h1, h2⟩ := hr q
  exact op_notIn_kd D pins s σ H _ _ v u Q I rx ry ⟨q, r, rfl, rfl, h1, by rw [relO_some h2]; exact k⟩
theorem ix_KD (hK : X.K = K) (hw : X.w = w) : IxR X (rIxKD K w) := by
  subst hK hw
  intro value slice pins s σ H x y v u Q I rx ry h hs
  obtain ⟨d, q, kvs, z, rfl, rfl, ⟨es, n, D, hr⟩, hl, k⟩ := h
  obtain ⟨r, h1, h2⟩ := hr q
  rw [hl] at h2
  cases r with
  | none => exact h2.elim
  | some u0 => exact ix_kdict value slice pins s σ H _ _ v u Q I rx ry ⟨d, q, z, rfl, rfl, ⟨es, n, u0, D.at_, D.lit, h1, h2⟩, k⟩ hs
variable {o e f : Expr} {apos cpos : Pos} {td ty tx : TE}
def tKGet (K : PySem.W.Frag) (w : World) (td ty tx : TE) : TE := fun σ H Q => td σ H fun x H1 => ∃ (d : Addr) (kvs : List (Str × V)), x = .ref d ∧ KTab K w d kvs ∧ ty σ H1 fun y H2 => tx σ H2 fun z H3 => ∃ q : Str, y = .str q ∧ Q ((kvs.lookup q).getD z) H3
theorem pe_kget (hK : X.K = K) (hw : X.w = w) (ho : PE X o td) (he : PE X e ty) (hf : PE X f tx) (m : M2 X o "get" apos e f cpos) : PE X (.Call (.Attribute o "get" apos) [e, f] [] cpos) (tKGet K w td ty tx) := by
  subst hK hw
  refine ⟨fun pins s σ H Q I h => ?_⟩
  refine wpAny_Call_method m.base m.few m.line PySem.F.plainAttrs_dict PySem.F.slot_dict_get PySem.F.type_dict_get (thn (ho.run pins s σ H _ I h) fun u s1 ⟨x, H1, I1, rx, d, kvs, ex, ⟨es, n, D, hr⟩, q1⟩ => ?_)
  subst ex
  obtain rfl : u = Value.ref d := rx
  refine ⟨kd_type D I1, fun b q => ?_, ?_⟩
  · cases q
    exact ⟨_, I1.kIn _ _ D.at_, rfl⟩
  rw [m.trees]
  refine Calls.callWith_builtin rfl (Calls.evalArgs_plain (Calls.spliced_cons (thn (he.run pins s1 σ H1 _ I1 q1) fun iv s2 ⟨y, H2, I2, ry, q2⟩ =>
    Calls.spliced_cons (thn (hf.run pins s2 σ H2 _ I2 q2) fun fv s3 ⟨z, H3, I3, rz, q, ey, q3⟩ => Calls.spliced_nil ?_))))
  subst ey
  obtain ⟨t, rfl⟩ := (show ∃ t, iv = Value.str q t from ry)
  obtain ⟨r, h1, h2⟩ := hr q
  refine call_meetsIn PySem.F.slot_dict_get (kd_type D I3) PySem.F.entry_dict_get (PySem.F.args_dict_get_3 _ _ _) (meets_dict_get_default (PySem.strKind X.prog X.w) (d := d) (k := q) (key := .str q t) (PySem.strKind_is X.prog X.w q t) D.low fv) ⟨_, PySem.W.mapOf_K (prog := X.prog) I3.kIn D.at_ D.lit, ?_⟩
  rw [PySem.W.find_K D.at_ h1]
  refine ⟨(kvs.lookup q).getD z, H3, I3.tok _, ?_, q3⟩
  cases hl : kvs.lookup q with
  | none =>
    rw [hl] at h2
    cases r with
    | none => exact rz
    | some _ => exact h2.elim
  | some v =>
    rw [hl] at h2
    cases r with
    | none => exact h2.elim
    | some u => exact h2
end
def tabSIGNS : List (Str × V) := [("+", .str "xy"), ("-", .str "xy"), ("*", .str "xy"), ("//", .str "xy"), ("**", .str "xk")]
def tabPLAIN : List (Str × V) := [("number", .str "k"), ("base", .str ""), ("let", .str "x"), ("turned", .str "x"), ("least", .str "x"), ("greatest", .str "x"), ("sum", .str "x"), ("many", .str "x"), ("root", .str "x"), ("figure", .str "kx"), ("first", .str "kx"), ("last", .str "kx"), ("joined", .str "xy"), ("common", .str "xy"), ("lesser", .str "xy"), ("rest", .str "xy")]
def tabASKED : List (Str × V) := [("same", .int 2), ("less", .int 2), ("divides", .int 2), ("mirrored", .int 1), ("unlike", .int 1)]
section
variable {w : World} {K : PySem.W.Frag} {mg : Str → Option Value}
theorem kt_SIGNS (T : Txt w K mg) : KTab K w (He.ga K "SIGNS") tabSIGNS := ktab_of T.tab_SIGNS T.x_SIGNS rfl
theorem kt_PLAIN (T : Txt w K mg) : KTab K w (He.ga K "PLAIN") tabPLAIN := ktab_of T.tab_PLAIN T.x_PLAIN rfl
theorem kt_ASKED (T : Txt w K mg) : KTab K w (He.ga K "ASKED") tabASKED := ktab_of T.tab_ASKED T.x_ASKED rfl
end
end E97
set_option Elab.async false
set_option linter.all false
set_option maxRecDepth 100000
set_option maxHeartbeats 4000000
namespace E97
open PySem PySem.Spec PyProof.Rows L2 Evl
/-! ### mirrors -/
def gr (i j : Int) : Int := if j < i then i else j
def cap (i : Int) : Int := if i < 1000000 then i else 1000000
def powL (n : Int) : Nat → Int → Int
  | 0, f => f
  | t + 1, f => if 1 < n ∧ f < 1000000 then powL n t (cap (f * n)) else f
def pw (n k : Int) : Int := powL n k.toNat 1
theorem cap_le (i : Int) : cap i ≤ 1000000 := by unfold cap; split <;> omega
theorem cap_pos {i : Int} (h : 1 ≤ i) : 1 ≤ cap i := by unfold cap; split <;> omega
theorem gr_le {i j m : Int} (h : i ≤ m) (h2 : j ≤ m) : gr i j ≤ m := by unfold gr; split <;> assumption
theorem gr_l (i j : Int) : i ≤ gr i j := by unfold gr; split <;> omega
theorem gr_r (i j : Int) : j ≤ gr i j := by unfold gr; split <;> omega
theorem powL_pos (n : Int) : ∀ (t : Nat) (f : Int), 1 ≤ f → 1 ≤ powL n t f
  | 0, f, h => h
  | t + 1, f, h => by
    unfold powL
    split
    · rename_i c
      refine powL_pos n t _ (cap_pos ?_)
      have := Int.mul_le_mul h (by omega : (1 : Int) ≤ n) (by decide) (by omega)
      omega
    · exact h
theorem powL_le (n : Int) : ∀ (t : Nat) (f : Int), f ≤ 1000000 → powL n t f ≤ 1000000
  | 0, f, h => h
  | t + 1, f, h => by
    unfold powL
    split
    · exact powL_le n t _ (cap_le _)
    · exact h
theorem pw_pos (n k : Int) : 1 ≤ pw n k := powL_pos n _ 1 (by decide)
theorem pw_le (n k : Int) : pw n k ≤ 1000000 := powL_le n _ 1 (by decide)
/-- what is told of a name: length, size, steady, straight -/
abbrev M4 := Int × Int × Bool × Bool
def mV (m : M4) : List V := [.int m.1, .int m.2.1, .bl m.2.2.1, .bl m.2.2.2]
def M4.ok (m : M4) : Prop := (1 ≤ m.1 ∧ m.1 ≤ 1000000) ∧ 1 ≤ m.2.1 ∧ m.2.1 ≤ 1000000
def first4 : M4 := (1, 1, true, true)
def mulOf (t : Int) : Int := if t < 7 then ([1, 1, 2, 6, 12, 60, 60] : List Int).getD t.toNat 0 else 1000
def fA (a b : M4) : Int :=
  if a.1 = 1 ∧ b.1 = 1 then 1 else if a.1 = 1 then (if a.2.2.1 then a.2.1 else mulOf a.2.1) else if b.1 = 1 then (if b.2.2.1 then b.2.1 else mulOf b.2.1)
  else if (a.1 = 2 ∧ b.1 = 2) ∧ (a.2.2.1 && a.2.2.2) = true ∧ (b.2.2.1 && b.2.2.2) = true then 2 * a.2.1 * b.2.1 else 1000
def ofOne (d : Str) (m : M4) : Int × Int :=
  if d = "let" then (m.1, m.2.1) else if d = "many" then (1, m.1) else if d = "sum" then (2, m.1 * (m.2.1 + 2)) else if d = "root" then (2, m.2.1 + 4)
  else if d = "figure" then (2, m.2.1 + 2) else (m.1, m.1 * (m.2.1 + 2))
theorem iteD {c A B : Prop} [Decidable c] (h1 : c → A) (h2 : ¬c → B) : if decide c = true then A else B := by
  by_cases h : c
  · rw [if_pos (decide_eq_true h)]; exact h1 h
  · rw [if_neg (by rw [decide_eq_false h]; exact Bool.false_ne_true)]; exact h2 h
theorem iteS {d z : Str} {A B : Prop} (h1 : d = z → A) (h2 : ¬d = z → B) : if decide (V.str d = V.str z) = true then A else B :=
  iteD (fun c => h1 (V.str.inj c)) fun c => h2 fun e => c (e ▸ rfl)
theorem iteI {d z : Int} {A B : Prop} (h1 : d = z → A) (h2 : ¬d = z → B) : if decide (V.int d = V.int z) = true then A else B :=
  iteD (fun c => h1 (V.int.inj c)) fun c => h2 fun e => c (e ▸ rfl)
/-! ### promises -/
def sp_is_integer : SP0 := fun vs H Q => ∃ i : Int, vs = [.int i] ∧ Q (.bl true) H
def sp_is_number : SP0 := fun vs H Q => ∃ i : Int, vs = [.int i] ∧ 0 ≤ i ∧ Q (.bl true) H
def sp_greater : SP0 := fun vs H Q => ∃ i j : Int, vs = [.int i, .int j] ∧ Q (.int (gr i j)) H
def sp_capped : SP0 := fun vs H Q => ∃ i : Int, vs = [.int i] ∧ Q (.int (cap i)) H
def sp_power : SP0 := fun vs H Q => ∃ n k : Int, vs = [.int n, .int k] ∧ (0 ≤ n ∧ n ≤ 1000000) ∧ ∀ H', Ex H H' → Q (.int (pw n k)) H'
def sp_multiple_of : SP0 := fun vs H Q => ∃ t : Int, vs = [.int t] ∧ 0 ≤ t ∧ Q (.int (mulOf t)) H
def sp_factor_apart (K : PySem.W.Frag) : SP0 := fun vs H Q => ∃ (a b : Addr) (m1 m2 : M4), vs = [.ref a, .ref b] ∧ SqT K H a (mV m1) ∧ SqT K H b (mV m2) ∧ m1.ok ∧ m2.ok ∧ ∀ H', Ex H H' → Q (.int (fA m1 m2)) H'
def sp_of_one (K : PySem.W.Frag) : SP0 := fun vs H Q => ∃ (d : Str) (a : Addr) (m : M4), vs = [.str d, .ref a] ∧ SqT K H a (mV m) ∧ m.ok ∧ ∀ p H', Ex H H' → H' p = some (.tup [.int (ofOne d m).1, .int (ofOne d m).2]) → Q (.ref p) H'
section
variable {P : Program} {w : World} {K : PySem.W.Frag} {mg : Str → Option Value} {base : Heap}
theorem ok_is_integer (T : Txt w K mg) : FR P w K mg base 1 (a_is_integer K) (sp_is_integer) := by
  obtain ⟨fd, F⟩ := T.d_is_integer
  refine mkR F sc_is_integer (fun _ _ _ _ _ _ us hl => match us, hl with | [_], _ => rfl) (fun vs H Q h => by obtain ⟨i, rfl, k⟩ := h; rfl) fun cdv A outer s H vs Q E hr h => ?_
  obtain ⟨i, rfl, k⟩ := h
  refine ⟨_, (pss_one (ps_ret (pe_and (pe_callB (kcall_isi (K := K) rfl) (by rfl) T.z_isinstance b_isinstance (pa_cons (pv 0) (pa_cons (pe_bltn (v := .ty "int") rfl T.z_int b_int rfl) pa_nil))) (pe_one (pe_not (pe_callB (kcall_isi (K := K) rfl) (by rfl) T.z_isinstance b_isinstance (pa_cons (pv 0) (pa_cons (pe_bltn (v := .ty "bool") rfl T.z_bool b_bool rfl) pa_nil)))))))), ?_⟩
  refine ⟨_, rfl, _, _, _, _, true, rfl, .ty "int", .base (.int i), kit_ty (by decide +kernel), ?_⟩
  refine ⟨true, rfl, ?_⟩
  refine iteT ?_
  refine ⟨_, rfl, _, _, _, _, false, rfl, .ty "bool", .base (.int i), kit_ty (by decide +kernel), ?_⟩
  exact ⟨false, rfl, k⟩
theorem ok_is_number (T : Txt w K mg) : FR P w K mg base 2 (a_is_number K) (sp_is_number) := by
  obtain ⟨fd, F⟩ := T.d_is_number
  refine mkR F sc_is_number (fun _ _ _ _ _ _ us hl => match us, hl with | [_], _ => rfl) (fun vs H Q h => by obtain ⟨i, rfl, hi, k⟩ := h; rfl) fun cdv A outer s H vs Q E hr h => ?_
  obtain ⟨i, rfl, hi, k⟩ := h
  refine ⟨_, (pss_one (ps_ret (pe_and (pe_callF (ok_is_integer (K := K) T) (hr.mono (by omega)) (by rfl) T.g_is_integer T.k_is_integer (pa_cons (pv 0) pa_nil)) (pe_one (pe_cmpR op_ge (pv 0) pe_int (nomark _)))))), ?_⟩
  refine ⟨_, rfl, i, rfl, ?_⟩
  refine ⟨true, rfl, ?_⟩
  refine iteT ?_
  refine ⟨_, rfl, _, _, rfl, rfl, ?_⟩
  show Q (.bl (decide (0 ≤ i))) H
  rw [decide_eq_true hi]
  exact k
theorem ok_greater (T : Txt w K mg) : FR P w K mg base 1 (a_greater K) (sp_greater) := by
  obtain ⟨fd, F⟩ := T.d_greater
  refine mkR F sc_greater (fun _ _ _ _ _ _ us hl => match us, hl with | [_, _], _ => rfl) (fun vs H Q h => by obtain ⟨i, j, rfl, k⟩ := h; rfl) fun cdv A outer s H vs Q E hr h => ?_
  obtain ⟨i, j, rfl, k⟩ := h
  refine ⟨_, (pss_one (ps_ret (pe_ifExp (pt_cmpR op_gt (pv 0) (pv 1) (nomark _)) (pv 0) (pv 1)))), ?_⟩
  refine ⟨_, rfl, _, rfl, _, _, rfl, rfl, _, rfl, ?_⟩
  refine iteD (fun c => ?_) (fun c => ?_)
  · refine ⟨_, rfl, ?_⟩
    rw [gr, if_pos c] at k
    exact k
  · refine ⟨_, rfl, ?_⟩
    rw [gr, if_neg c] at k
    exact k
theorem ok_capped (T : Txt w K mg) : FR P w K mg base 1 (a_capped K) (sp_capped) := by
  obtain ⟨fd, F⟩ := T.d_capped
  obtain ⟨tkMOST, gMOST⟩ := T.i_MOST
  refine mkR F sc_capped (fun _ _ _ _ _ _ us hl => match us, hl with | [_], _ => rfl) (fun vs H Q h => by obtain ⟨i, rfl, k⟩ := h; rfl) fun cdv A outer s H vs Q E hr h => ?_
  obtain ⟨i, rfl, k⟩ := h
  refine ⟨_, (pss_one (ps_ret (pe_ifExp (pt_cmpR op_lt (pv 0) (pe_glob (v := .int 1000000) rfl gMOST ⟨_, rfl⟩) (nomark _)) (pv 0) (pe_glob (v := .int 1000000) rfl gMOST ⟨_, rfl⟩)))), ?_⟩
  refine ⟨_, rfl, _, _, rfl, rfl, _, rfl, ?_⟩
  refine iteD (fun c => ?_) (fun c => ?_)
  · refine ⟨_, rfl, ?_⟩
    rw [cap, if_pos c] at k
    exact k
  · rw [cap, if_neg c] at k
    exact k
theorem ok_power (T : Txt w K mg) : FR P w K mg base 2 (a_power K) (sp_power) := by
  obtain ⟨fd, F⟩ := T.d_power
  obtain ⟨tkMOST, gMOST⟩ := T.i_MOST
  refine mkR F sc_power (fun _ _ _ _ _ _ us hl => match us, hl with | [_, _], _ => rfl) (fun vs H Q h => by obtain ⟨n, e, rfl, ⟨hn, hn2⟩, k⟩ := h; rfl) fun cdv A outer s H vs Q E hr h => ?_
  obtain ⟨n, e, rfl, ⟨hn, hn2⟩, k⟩ := h
  refine ⟨_, (pss_cons (ps_asg (pe_tup (pa_cons pe_int (pa_cons pe_int pa_nil))) (kpg_tup (K := K) (n := 2) rfl (by rfl) (pgs_cons (pg_name (i := 2) sc_power.nd rfl (Or.inl rfl)) (pgs_cons (pg_name (i := 3) sc_power.nd rfl (Or.inl rfl)) pgs_nil))))
  (pss_cons (ps_while PassesOwn.never (PW.pt (pw_and (pt_cmpR op_lt (pv 3) (pv 1) (nomark _)) (pw_and (pt_cmpR op_lt pe_int (pv 0) (nomark _)) (pw_and1 (pt_cmpR op_lt (pv 2) (pe_glob (v := .int 1000000) rfl gMOST ⟨_, rfl⟩) (nomark _)))))) (pss_cons (ps_set (i := 2) sc_power.nd rfl (Or.inl rfl) (pe_callF (ok_capped (K := K) T) (hr.mono (by omega)) (by rfl) T.g_capped T.k_capped (pa_cons (pe_op op_mul (pv 2) (pv 0)) pa_nil)))
  (pss_one (ps_set (i := 3) sc_power.nd rfl (Or.inl rfl) (pe_op op_add (pv 3) pe_int)))))
  (pss_one (ps_ret (pv 2))))), ?_⟩
  refine ⟨by show 2 ≤ sizeLine; decide, fun p hp => ⟨p, _, rfl, SqT.of upd_same, rfl, _, _, rfl, _, _, rfl, rfl, ?_⟩⟩
  refine ⟨fun m σ H' => Ex H H' ∧ ∃ f t : Int, σ = [some (.int n), some (.int e), some (.int f), some (.int t)] ∧ 0 ≤ t ∧ m = (e - t).toNat ∧ 1 ≤ f ∧ f ≤ 1000000 ∧ powL n (e - t).toNat f = pw n e,
    ⟨_, Ex.new hp, 1, 0, rfl, by omega, rfl, by omega, by omega, by rw [Int.sub_zero]; rfl⟩, ?_⟩
  rintro m σ H' ⟨e1, f, t, rfl, h0, rfl, h1, h2, e2⟩
  refine ⟨_, rfl, _, rfl, _, _, rfl, rfl, _, rfl, iteD (fun c1 => ?_) (fun c1 => ?_)⟩
  · refine ⟨_, rfl, _, _, rfl, rfl, _, rfl, iteD (fun c2 => ?_) (fun c2 => ?_)⟩
    · refine ⟨_, rfl, _, _, rfl, rfl, _, rfl, iteD (fun c3 => ?_) (fun c3 => ?_)⟩
      · refine ⟨fun σ' H'' => Ex H H'' ∧ ∃ f' : Int, σ' = [some (.int n), some (.int e), some (.int f'), some (.int (t + 1))] ∧ 1 ≤ f' ∧ f' ≤ 1000000 ∧ powL n (e - (t + 1)).toNat f' = pw n e, ?_, ?_⟩
        · rintro σ' H'' ⟨e3, f', rfl, g1, g2, g3⟩
          exact ⟨_, by omega, e3, f', t + 1, rfl, by omega, rfl, g1, g2, g3⟩
        · refine ⟨_, rfl, _, rfl, _, _, rfl, rfl, .inl ⟨by omega, by omega⟩, _, rfl, ?_⟩
          refine ⟨_, rfl, _, _, rfl, rfl, ?_⟩
          refine ⟨e1, _, rfl, cap_pos ?_, cap_le _, ?_⟩
          · have := Int.mul_le_mul h1 (by omega : (1 : Int) ≤ n) (by decide) (by omega)
            omega
          · have z : (e - t).toNat = (e - (t + 1)).toNat + 1 := by omega
            rw [z, powL, if_pos ⟨c2, c3⟩] at e2
            exact e2
      · have z : (e - t).toNat = (e - (t + 1)).toNat + 1 := by omega
        rw [z, powL, if_neg (fun q => c3 q.2)] at e2
        exact ⟨_, rfl, (show Q (.int f) H' from (show f = pw n e from e2) ▸ k H' e1)⟩
    · have z : (e - t).toNat = (e - (t + 1)).toNat + 1 := by omega
      rw [z, powL, if_neg (fun q => c2 q.1)] at e2
      exact ⟨_, rfl, (show Q (.int f) H' from (show f = pw n e from e2) ▸ k H' e1)⟩
  · have z : (e - t).toNat = 0 := by omega
    rw [z] at e2
    exact ⟨_, rfl, (show Q (.int f) H' from (show f = pw n e from e2) ▸ k H' e1)⟩
theorem ok_multiple_of (T : Txt w K mg) : FR P w K mg base 1 (a_multiple_of K) (sp_multiple_of) := by
  obtain ⟨fd, F⟩ := T.d_multiple_of
  obtain ⟨tkBEYOND, gBEYOND⟩ := T.i_BEYOND
  refine mkR F sc_multiple_of (fun _ _ _ _ _ _ us hl => match us, hl with | [_], _ => rfl) (fun vs H Q h => by obtain ⟨t, rfl, h0, k⟩ := h; rfl) fun cdv A outer s H vs Q E hr h => ?_
  obtain ⟨t, rfl, h0, k⟩ := h
  refine ⟨_, (pss_one (ps_ret (pe_ifExp (pt_cmpR op_lt (pv 0) (pe_callB (kcall_len (K := K) rfl) (by rfl) T.z_len b_len (pa_cons (pe_glob (v := .ref _) rfl T.g_MULTIPLES rfl) pa_nil)) (nomark _)) (pe_ix (kix_tup (K := K) rfl) (pe_glob (v := .ref _) rfl T.g_MULTIPLES rfl) (pv 0) (fun _ _ => rfl)) (pe_glob (v := .int 1000) rfl gBEYOND ⟨_, rfl⟩)))), ?_⟩
  have xM := fun H => He.tupB_ok T.x_MULTIPLES H
  refine ⟨_, rfl, _, _, rfl, .inr (xM _), _, _, rfl, rfl, _, rfl, iteD (fun c => ?_) (fun c => ?_)⟩
  · have c' : t < 7 := c
    unfold mulOf at k
    rw [if_pos c'] at k
    have z : t = 0 ∨ t = 1 ∨ t = 2 ∨ t = 3 ∨ t = 4 ∨ t = 5 ∨ t = 6 := by omega
    rcases z with rfl | rfl | rfl | rfl | rfl | rfl | rfl <;> exact ⟨_, rfl, _, _, _, _, rfl, rfl, xM _, rfl, k⟩
  · have c' : ¬ t < 7 := c
    unfold mulOf at k
    rw [if_neg c'] at k
    exact k
theorem ok_of_one (T : Txt w K mg) : FR P w K mg base 1 (a_of_one K) (sp_of_one K) := by
  obtain ⟨fd, F⟩ := T.d_of_one
  refine mkR F sc_of_one (fun _ _ _ _ _ _ us hl => match us, hl with | [_, _], _ => rfl) (fun vs H Q h => by obtain ⟨d, a, m, rfl, h, hm, k⟩ := h; rfl) fun cdv A outer s H vs Q E hr h => ?_
  obtain ⟨d, a, m, rfl, h, hm, k⟩ := h
  refine ⟨_, (pss_cons (ps_par (i := 2) (j := 3) (by rfl) sc_of_one.nd rfl rfl (by decide) rfl rfl (pa_cons (pe_ix (kix_tup (K := K) rfl) (pv 1) pe_int (fun _ _ => rfl)) (pa_cons (pe_ix (kix_tup (K := K) rfl) (pv 1) pe_int (fun _ _ => rfl)) pa_nil)) (by rfl))
  (pss_cons (ps_if (pt_cmpR op_eq (pv 0) pe_str (nomark _)) (pss_one (ps_ret (pe_tup (pa_cons (pv 2) (pa_cons (pv 3) pa_nil))))) pss_nil)
  (pss_cons (ps_if (pt_cmpR op_eq (pv 0) pe_str (nomark _)) (pss_one (ps_ret (pe_tup (pa_cons pe_int (pa_cons (pv 2) pa_nil))))) pss_nil)
  (pss_cons (ps_if (pt_cmpR op_eq (pv 0) pe_str (nomark _)) (pss_one (ps_ret (pe_tup (pa_cons pe_int (pa_cons (pe_op op_mul (pv 2) (pe_op op_add (pv 3) pe_int)) pa_nil))))) pss_nil)
  (pss_cons (ps_if (pt_cmpR op_eq (pv 0) pe_str (nomark _)) (pss_one (ps_ret (pe_tup (pa_cons pe_int (pa_cons (pe_op op_add (pv 3) pe_int) pa_nil))))) pss_nil)
  (pss_one (ps_ret (pe_ifExp (pt_cmpR op_eq (pv 0) pe_str (nomark _)) (pe_tup (pa_cons pe_int (pa_cons (pe_op op_add (pv 3) pe_int) pa_nil))) (pe_tup (pa_cons (pv 2) (pa_cons (pe_op op_mul (pv 2) (pe_op op_add (pv 3) pe_int)) pa_nil))))))))))), ?_⟩
  obtain ⟨n, s', st, sr⟩ := m
  obtain ⟨⟨hn1, hn2⟩, hs1, hs2⟩ := hm
  have b1 : (1 : Int) ≤ n := hn1
  have b2 : n ≤ 1000000 := hn2
  have two : 2 ≤ sizeLine := by decide
  refine ⟨_, rfl, _, _, _, _, rfl, rfl, h, rfl, _, rfl, _, _, _, _, rfl, rfl, h, rfl, _, _, rfl, ?_⟩
  refine ⟨_, rfl, rfl, _, rfl, iteS (fun c => ?_) (fun c => ?_)⟩
  · rw [ofOne, if_pos c] at k
    exact ⟨_, rfl, _, rfl, two, fun p hp => k p _ (Ex.new hp) upd_same⟩
  rw [ofOne, if_neg c] at k
  refine ⟨_, rfl, rfl, _, rfl, iteS (fun c => ?_) (fun c => ?_)⟩
  · rw [if_pos c] at k
    exact ⟨_, rfl, two, fun p hp => k p _ (Ex.new hp) upd_same⟩
  rw [if_neg c] at k
  refine ⟨_, rfl, rfl, _, rfl, iteS (fun c => ?_) (fun c => ?_)⟩
  · rw [if_pos c] at k
    exact ⟨_, rfl, _, rfl, _, _, rfl, rfl, _, _, rfl, rfl, .inl ⟨by omega, by omega⟩, two, fun p hp => k p _ (Ex.new hp) upd_same⟩
  rw [if_neg c] at k
  refine ⟨_, rfl, rfl, _, rfl, iteS (fun c => ?_) (fun c => ?_)⟩
  · rw [if_pos c] at k
    exact ⟨_, rfl, _, _, rfl, rfl, two, fun p hp => k p _ (Ex.new hp) upd_same⟩
  rw [if_neg c] at k
  refine ⟨_, rfl, rfl, _, rfl, iteS (fun c => ?_) (fun c => ?_)⟩
  · rw [if_pos c] at k
    exact ⟨_, rfl, _, _, rfl, rfl, two, fun p hp => k p _ (Ex.new hp) upd_same⟩
  rw [if_neg c] at k
  exact ⟨_, rfl, _, rfl, _, rfl, _, _, rfl, rfl, _, _, rfl, rfl, .inl ⟨by omega, by omega⟩, two, fun p hp => k p _ (Ex.new hp) upd_same⟩
theorem ok_factor_apart (T : Txt w K mg) : FR P w K mg base 2 (a_factor_apart K) (sp_factor_apart K) := by
  obtain ⟨fd, F⟩ := T.d_factor_apart
  obtain ⟨tkBEYOND, gBEYOND⟩ := T.i_BEYOND
  refine mkR F sc_factor_apart (fun _ _ _ _ _ _ us hl => match us, hl with | [_, _], _ => rfl) (fun vs H Q h => by obtain ⟨a, b, m1, m2, rfl, h1, h2, o1, o2, k⟩ := h; rfl) fun cdv A outer s H vs Q E hr h => ?_
  obtain ⟨a, b, m1, m2, rfl, h1, h2, o1, o2, k⟩ := h
  refine ⟨_, (pss_cons (ps_if (PW.pt (pw_and (pt_cmpR op_eq (pe_ix (kix_tup (K := K) rfl) (pv 0) pe_int (fun _ _ => rfl)) pe_int (nomark _)) (pw_and1 (pt_cmpR op_eq (pe_ix (kix_tup (K := K) rfl) (pv 1) pe_int (fun _ _ => rfl)) pe_int (nomark _))))) (pss_one (ps_ret pe_int)) pss_nil)
  (pss_cons (ps_if (PW.pt (pw_or (pt_cmpR op_eq (pe_ix (kix_tup (K := K) rfl) (pv 0) pe_int (fun _ _ => rfl)) pe_int (nomark _)) (pw_or1 (pt_cmpR op_eq (pe_ix (kix_tup (K := K) rfl) (pv 1) pe_int (fun _ _ => rfl)) pe_int (nomark _))))) (pss_cons (ps_asg (pe_ifExp (pt_cmpR op_eq (pe_ix (kix_tup (K := K) rfl) (pv 0) pe_int (fun _ _ => rfl)) pe_int (nomark _)) (pe_tup (pa_cons (pe_ix (kix_tup (K := K) rfl) (pv 0) pe_int (fun _ _ => rfl)) (pa_cons (pe_ix (kix_tup (K := K) rfl) (pv 0) pe_int (fun _ _ => rfl)) pa_nil))) (pe_tup (pa_cons (pe_ix (kix_tup (K := K) rfl) (pv 1) pe_int (fun _ _ => rfl)) (pa_cons (pe_ix (kix_tup (K := K) rfl) (pv 1) pe_int (fun _ _ => rfl)) pa_nil)))) (kpg_tup (K := K) (n := 2) rfl (by rfl) (pgs_cons (pg_name (i := 2) sc_factor_apart.nd rfl (Or.inl rfl)) (pgs_cons (pg_name (i := 3) sc_factor_apart.nd rfl (Or.inl rfl)) pgs_nil))))
  (pss_one (ps_ret (pe_ifExp (pt_val (pv 3)) (pv 2) (pe_callF (ok_multiple_of (K := K) T) (hr.mono (by omega)) (by rfl) T.g_multiple_of T.k_multiple_of (pa_cons (pv 2) pa_nil)))))) pss_nil)
  (pss_cons (ps_if (PW.pt (pw_and (pt_cmpR op_eq (pe_ix (kix_tup (K := K) rfl) (pv 0) pe_int (fun _ _ => rfl)) pe_int (nomark _)) (pw_and (pt_cmpR op_eq (pe_ix (kix_tup (K := K) rfl) (pv 1) pe_int (fun _ _ => rfl)) pe_int (nomark _)) (pw_and (pt_val (pe_callB (kcrT_all (K := K) rfl rfl) (by rfl) T.z_all b_all (pa_cons (pe_slice (ksl_tup (K := K) rfl) (pv 0) (po_some pe_int) po_none) pa_nil))) (pw_and1 (pt_val (pe_callB (kcrT_all (K := K) rfl rfl) (by rfl) T.z_all b_all (pa_cons (pe_slice (ksl_tup (K := K) rfl) (pv 1) (po_some pe_int) po_none) pa_nil)))))))) (pss_one (ps_ret (pe_op op_mul (pe_op op_mul pe_int (pe_ix (kix_tup (K := K) rfl) (pv 0) pe_int (fun _ _ => rfl))) (pe_ix (kix_tup (K := K) rfl) (pv 1) pe_int (fun _ _ => rfl))))) pss_nil)
  (pss_one (ps_ret (pe_glob (v := .int 1000) rfl gBEYOND ⟨_, rfl⟩)))))), ?_⟩
  obtain ⟨n, s', st, sr⟩ := m1
  obtain ⟨m, t, tt, tr⟩ := m2
  obtain ⟨⟨a1, a2⟩, a3, a4⟩ := o1
  obtain ⟨⟨b1, b2⟩, b3, b4⟩ := o2
  dsimp only at a1 a2 a3 a4 b1 b2 b3 b4
  have two : 2 ≤ sizeLine := by decide
  have ge : ∀ H', Ex H H' → ∀ (x : Bool) (i : Int), 0 ≤ i → (∀ H', Ex H H' → Q (.int (if x then i else mulOf i)) H') →
      (if x = true then Q (.int i) H' else (∃ v, some (V.int i) = some v ∧ sp_multiple_of [v] H' Q)) := fun H' e x i hi q => by
    cases x with
    | true => rw [if_pos rfl]; exact q H' e
    | false => rw [if_neg Bool.false_ne_true]; exact ⟨_, rfl, _, rfl, hi, q H' e⟩
  have lone1 : n = 1 → ¬ m = 1 → fA (n, s', st, sr) (m, t, tt, tr) = if st then s' else mulOf s' := fun c c' => by
    unfold fA
    rw [if_neg (fun q => c' q.2), if_pos c]
  have lone2 : ¬ n = 1 → m = 1 → fA (n, s', st, sr) (m, t, tt, tr) = if tt then t else mulOf t := fun c c' => by
    unfold fA
    rw [if_neg (fun q => c q.1), if_neg c, if_pos c']
  refine ⟨_, rfl, _, _, _, _, rfl, rfl, h1, rfl, rfl, _, rfl, iteI (fun c => ?_) (fun c => ?_)⟩
  · refine ⟨_, rfl, _, _, _, _, rfl, rfl, h2, rfl, rfl, _, rfl, iteI (fun c' => ?_) (fun c' => ?_)⟩
    · have z : fA (n, s', st, sr) (m, t, tt, tr) = 1 := by
        unfold fA
        rw [if_pos ⟨c, c'⟩]
      rw [z] at k
      exact k H (Ex.refl H)
    · rw [lone1 c c'] at k
      refine ⟨_, rfl, _, _, _, _, rfl, rfl, h1, rfl, rfl, _, rfl, iteI (fun c2 => ?_) (fun c2 => absurd c c2)⟩
      refine ⟨_, rfl, _, _, _, _, rfl, rfl, h1, rfl, rfl, _, rfl, iteI (fun c2 => ?_) (fun c2 => absurd c c2)⟩
      refine ⟨_, rfl, _, _, _, _, rfl, rfl, h1, rfl, _, rfl, _, _, _, _, rfl, rfl, h1, rfl, two, fun p hp => ?_⟩
      refine ⟨p, _, rfl, SqT.of upd_same, rfl, _, _, rfl, _, _, rfl, rfl, ?_⟩
      cases st with
      | true => exact ⟨_, rfl, true, rfl, _, rfl, k _ (Ex.new hp)⟩
      | false => exact ⟨_, rfl, false, rfl, _, rfl, _, rfl, (show (0 : Int) ≤ s' by omega), k _ (Ex.new hp)⟩
  · refine ⟨_, rfl, _, _, _, _, rfl, rfl, h1, rfl, rfl, _, rfl, iteI (fun c2 => absurd c2 c) (fun c2 => ?_)⟩
    refine ⟨_, rfl, _, _, _, _, rfl, rfl, h2, rfl, rfl, _, rfl, iteI (fun c' => ?_) (fun c' => ?_)⟩
    · rw [lone2 c c'] at k
      refine ⟨_, rfl, _, _, _, _, rfl, rfl, h1, rfl, rfl, _, rfl, iteI (fun c2 => absurd c2 c) (fun c2 => ?_)⟩
      refine ⟨_, rfl, _, _, _, _, rfl, rfl, h2, rfl, _, rfl, _, _, _, _, rfl, rfl, h2, rfl, two, fun p hp => ?_⟩
      refine ⟨p, _, rfl, SqT.of upd_same, rfl, _, _, rfl, _, _, rfl, rfl, ?_⟩
      cases tt with
      | true => exact ⟨_, rfl, true, rfl, _, rfl, k _ (Ex.new hp)⟩
      | false => exact ⟨_, rfl, false, rfl, _, rfl, _, rfl, (show (0 : Int) ≤ t by omega), k _ (Ex.new hp)⟩
    · have z0 : fA (n, s', st, sr) (m, t, tt, tr) = if (n = 2 ∧ m = 2) ∧ (st && sr) = true ∧ (tt && tr) = true then 2 * s' * t else 1000 := by
        unfold fA
        rw [if_neg (fun q => c q.1), if_neg c, if_neg c']
      rw [z0] at k
      have no : ∀ H', Ex H H' → ¬ ((n = 2 ∧ m = 2) ∧ (st && sr) = true ∧ (tt && tr) = true) → Q (.int 1000) H' := fun H' e q => by
        rw [if_neg q] at k
        exact k H' e
      refine ⟨_, rfl, _, _, _, _, rfl, rfl, h1, rfl, rfl, _, rfl, iteI (fun d => ?_) (fun d => no _ (Ex.refl H) fun q => d q.1.1)⟩
      refine ⟨_, rfl, _, _, _, _, rfl, rfl, h2, rfl, rfl, _, rfl, iteI (fun d' => ?_) (fun d' => no _ (Ex.refl H) fun q => d' q.1.2)⟩
      refine ⟨_, rfl, 2, rfl, a, _, rfl, h1, (fun z => absurd z (show ¬ (HT.sIx 4 0 (some 2) = 0 ∧ HT.sIx 4 4 none = 4) by decide)), fun _ p hp => ?_⟩
      refine ⟨p, [st, sr], rfl, SqT.of upd_same, _, rfl, ?_⟩
      show if (st && (sr && true)) = true then _ else _
      rw [Bool.and_true]
      have e1 : Ex H (upd H p (.tup (cutV (mV (n, s', st, sr)) (some 2) none))) := Ex.new hp
      cases d2 : (st && sr) with
      | false => exact no _ e1 fun q => absurd q.2.1 (by rw [d2]; exact Bool.false_ne_true)
      | true =>
        refine ⟨_, rfl, 2, rfl, b, _, rfl, ex_t e1 h2, (fun z => absurd z (show ¬ (HT.sIx 4 0 (some 2) = 0 ∧ HT.sIx 4 4 none = 4) by decide)), fun _ p2 hp2 => ?_⟩
        refine ⟨p2, [tt, tr], rfl, SqT.of upd_same, _, rfl, ?_⟩
        show if (tt && (tr && true)) = true then _ else _
        rw [Bool.and_true]
        have e2 := e1.trans (Ex.new (o := .tup (cutV (mV (m, t, tt, tr)) (some 2) none)) hp2)
        cases d3 : (tt && tr) with
        | false => exact no _ e2 fun q => absurd q.2.2 (by rw [d3]; exact Bool.false_ne_true)
        | true =>
          rw [if_pos ⟨⟨d, d'⟩, d2, d3⟩] at k
          refine ⟨_, rfl, _, _, _, _, rfl, rfl, ex_t e2 h1, rfl, _, _, rfl, rfl, .inl ⟨by decide, by decide⟩, _, rfl, _, _, _, _, rfl, rfl, ex_t e2 h2, rfl, _, _, rfl, rfl, .inl ⟨?_, ?_⟩, k _ e2⟩
          · show -(2 ^ 64) < 2 * s'
            omega
          · show 2 * s' < 2 ^ 64
            omega
end
end E97
set_option Elab.async false
set_option linter.all false
set_option maxRecDepth 100000
set_option maxHeartbeats 4000000
/-! E97M: the mirrors: rows, measures; how they stand in the heap. -/
namespace E97
open PySem PySem.Spec PyProof.Rows L2 Evl
/-! ### rows as data -/
inductive PutG where
  | figs (ks : List Int) | num (k : Int) | base | pow (x : Str) (k : Int) | one (d x : Str) | kone (d : Str) (k : Int) (x : Str) | two (d x y : Str)
def oneD : List Str := ["let", "turned", "least", "greatest", "sum", "many", "root"]
def koneD : List Str := ["figure", "first", "last"]
def twoD : List Str := ["+", "-", "*", "//", "rest", "joined", "common", "lesser"]
def PutG.deed : PutG → Str
  | .figs _ => "figures"
  | .num _ => "number"
  | .base => "base"
  | .pow _ _ => "**"
  | .one d _ => d
  | .kone d _ _ => d
  | .two d _ _ => d
def PutG.given : PutG → List V
  | .figs ks => ks.map V.int
  | .num k => [.int k]
  | .base => []
  | .pow x k => [.str x, .int k]
  | .one _ x => [.str x]
  | .kone _ k x => [.int k, .str x]
  | .two _ x y => [.str x, .str y]
def PutG.names : PutG → List Str
  | .figs _ => []
  | .num _ => []
  | .base => []
  | .pow x _ => [x]
  | .one _ x => [x]
  | .kone _ _ x => [x]
  | .two _ x y => [x, y]
def PutG.wf (NS : List Str) : PutG → Prop
  | .figs ks => (1 ≤ ks.length ∧ ks.length ≤ 6) ∧ ∀ k ∈ ks, 0 ≤ k ∧ k < 100
  | .num k => 0 ≤ k ∧ k < 100
  | .base => True
  | .pow x k => x ∈ NS ∧ 0 ≤ k ∧ k < 100
  | .one d x => d ∈ oneD ∧ x ∈ NS
  | .kone d k x => d ∈ koneD ∧ (0 ≤ k ∧ k < 100) ∧ x ∈ NS
  | .two d x y => d ∈ twoD ∧ x ∈ NS ∧ y ∈ NS
inductive PT where
  | ask (word : Str) (ns : List Str)
  | not (t : PT)
def askW (word : Str) : Nat := if word ∈ (["same", "less", "divides"] : List Str) then 2 else 1
/-- a test with at most n `not`s -/
def PT.wf (NS : List Str) : Nat → PT → Prop
  | _, .ask word ns => word ∈ (["same", "less", "divides", "mirrored", "unlike"] : List Str) ∧ ns.length = askW word ∧ ∀ x ∈ ns, x ∈ NS
  | 0, .not _ => False
  | n + 1, .not t => t.wf NS n
inductive RF (R : Type) where
  | put (x : Str) (g : PutG) | stop | times (n : Nat) (rs : List R) | ife (t : PT) (rs os : List R)
def Rw : Nat → Type
  | 0 => Empty
  | d + 1 => RF (Rw d)
def RF.wf {R : Type} (NS : List Str) (w : R → Prop) : RF R → Prop
  | .put x g => x ∈ NS ∧ g.wf NS
  | .stop => True
  | .times n rs => n ≤ 4 ∧ rs.length ≤ 12 ∧ ∀ r ∈ rs, w r
  | .ife t rs os => t.wf NS 4 ∧ (rs.length ≤ 12 ∧ ∀ r ∈ rs, w r) ∧ os.length ≤ 12 ∧ ∀ r ∈ os, w r
def Rw.wf (NS : List Str) : (d : Nat) → Rw d → Prop
  | 0, r => nomatch r
  | d + 1, r => RF.wf NS (Rw.wf NS d) r
/-! ### measures as data -/
structure MS where
  now : Str → M4
  per : Int
  long : Int
  wide : Int
def ms0 : MS := ⟨fun _ => first4, 1, 1, 1⟩
structure MS.ok (s : MS) : Prop where
  now : ∀ x, (s.now x).ok
  per : 1 ≤ s.per ∧ s.per ≤ 1000000
  long : 1 ≤ s.long ∧ s.long ≤ 1000000
  wide : 1 ≤ s.wide ∧ s.wide ≤ 1000000
def MS.times (s : MS) (f : Int) : MS := { s with per := cap (s.per * f) }
def moreBy (a b : M4) : Int := if b.1 = 1 then (if b.2.2.1 then b.2.1 else mulOf b.2.1) else (if b.2.2.1 then pw b.2.1 a.1 else 1000)
/-- a deed with two names: length, size, and by what the period gets greater -/
def ofTwo (d : Str) (a b : M4) (per : Int) : (Int × Int) × Option Int :=
  if d = "+" ∨ d = "-" then ((gr a.1 b.1, a.2.1 + b.2.1), none)
  else if d = "*" then ((a.1 + b.1 - 1, a.2.1 * b.2.1), if a.2.2.1 = false ∧ b.2.2.1 = false then some per else none)
  else if d = "joined" then ((a.1 + b.1, a.2.1 + b.2.1), none)
  else if d = "//" then ((a.1, if b.1 = 1 then a.2.1 + 1 else a.2.1 * moreBy a b + 1), some (moreBy a b))
  else if d = "rest" then (if b.1 = 1 then (1, b.2.1) else (b.1, b.2.1 * (a.2.1 * moreBy a b + 1) + a.2.1), some (moreBy a b))
  else ((gr a.1 b.1, gr a.2.1 b.2.1), if d = "common" then some (fA a b) else none)
def MS.timesO (s : MS) : Option Int → MS
  | none => s
  | some f => s.times f
def meas (g : PutG) (s : MS) : (Int × Int) × Option Int := match g with
  | .figs ks => ((ks.length, gr 1 ks.sum), none)
  | .num k => ((1, gr 1 k), none)
  | .base => ((2, 1), none)
  | .pow x k => ((k * ((s.now x).1 - 1) + 1, pw (s.now x).2.1 k), if (s.now x).2.2.1 = false ∧ 1 < k then some (pw s.per (k - 1)) else none)
  | .one d x => (ofOne d (s.now x), none)
  | .kone d _ x => (ofOne d (s.now x), none)
  | .two d x y => ofTwo d (s.now x) (s.now y) s.per
def isSteady (g : PutG) (s : MS) : Bool := !decide (g.deed ∈ (["//", "rest", "common"] : List Str)) && (g.names.map fun x => (s.now x).2.2.1).all id
def isStraight (g : PutG) (s : MS) : Bool := !decide (g.deed ∈ (["turned", "least", "greatest", "first", "last"] : List Str)) && (g.names.map fun x => (s.now x).2.2.2).all id
def setN (f : Str → M4) (x : Str) (m : M4) : Str → M4 := fun y => if y = x then m else f y
def noteM (x : Str) (g : PutG) (s : MS) : MS :=
  { now := setN s.now x (cap (meas g s).1.1, cap (meas g s).1.2, isSteady g s, isStraight g s), per := (s.timesO (meas g s).2).per, long := gr s.long (cap (meas g s).1.1), wide := gr s.wide (cap (meas g s).1.2) }
def lookM : PT → MS → MS
  | .not t, s => lookM t s
  | .ask word ns, s => if word = "divides" then s.times (moreBy (s.now (ns.getD 1 Str.empty)) (s.now (ns.getD 0 Str.empty))) else s
def comb (a b : M4) : M4 := (gr a.1 b.1, gr a.2.1 b.2.1, a.2.2.1, a.2.2.2 && b.2.2.2)
def unst (a : M4) : M4 := (a.1, a.2.1, false, a.2.2.2)
def branchM (t : PT) (go1 go2 : MS → MS) (turned : List Str) (s : MS) : MS :=
  let s1 := lookM t s
  let s2 := go1 s1
  let s3 := go2 { s2 with now := s1.now }
  { s3 with now := fun x => if x ∈ turned then unst (comb (s2.now x) (s3.now x)) else comb (s2.now x) (s3.now x) }
def puts : (d : Nat) → List (Rw d) → List Str
  | 0, _ => []
  | d + 1, rs => rs.flatMap fun r => match (r : RF (Rw d)) with
    | .put x _ => [x]
    | .stop => []
    | .times _ rs => puts d rs
    | .ife _ rs os => puts d rs ++ puts d os
def times {α : Type} (f : α → α) : Nat → α → α
  | 0, s => s
  | n + 1, s => times f n (f s)
def stepM (d : Nat) (go : List (Rw d) → MS → MS) (r : RF (Rw d)) (s : MS) : MS := match r with
  | .put x g => noteM x g s
  | .stop => s
  | .times n rs => times (go rs) n s
  | .ife t rs os => branchM t (go rs) (go os) (puts d rs ++ puts d os) s
def goM : (d : Nat) → List (Rw d) → MS → MS
  | 0, _, s => s
  | d + 1, rs, s => rs.foldl (fun s r => stepM d (goM d) r s) s
/-! ### bounds -/
theorem first4_ok : first4.ok := ⟨⟨by decide, by decide⟩, by decide, by decide⟩
theorem mulOf_ok {t : Int} (h : 0 ≤ t) : 1 ≤ mulOf t ∧ mulOf t ≤ 1000000 := by
  unfold mulOf
  split
  · have z : t = 0 ∨ t = 1 ∨ t = 2 ∨ t = 3 ∨ t = 4 ∨ t = 5 ∨ t = 6 := by omega
    rcases z with rfl | rfl | rfl | rfl | rfl | rfl | rfl <;> decide
  · decide
theorem moreBy_ok {a b : M4} (hb : b.ok) : 1 ≤ moreBy a b ∧ moreBy a b ≤ 1000000 := by
  obtain ⟨⟨h1, h2⟩, h3, h4⟩ := hb
  unfold moreBy
  split
  · split
    · exact ⟨h3, h4⟩
    · exact mulOf_ok (by omega)
  · split
    · exact ⟨pw_pos _ _, pw_le _ _⟩
    · decide
theorem fA_ok {a b : M4} (ha : a.ok) (hb : b.ok) : 1 ≤ fA a b ∧ fA a b ≤ 10000000000000 := by
  obtain ⟨⟨h1, h2⟩, h3, h4⟩ := ha
  obtain ⟨⟨g1, g2⟩, g3, g4⟩ := hb
  unfold fA
  split
  · decide
  split
  · split
    · exact ⟨h3, by omega⟩
    · have := mulOf_ok (t := a.2.1) (by omega); omega
  split
  · split
    · exact ⟨g3, by omega⟩
    · have := mulOf_ok (t := b.2.1) (by omega); omega
  split
  · have e1 : 2 * 1 ≤ 2 * a.2.1 := by omega
    have e2 := Int.mul_le_mul e1 g3 (by decide) (by omega)
    have e3 := Int.mul_le_mul (show 2 * a.2.1 ≤ 2000000 by omega) g4 (by omega) (by decide)
    omega
  · decide
theorem times_ok {s : MS} (h : s.ok) {f : Int} (hf : 1 ≤ f) : (s.times f).ok := by
  refine ⟨h.now, ⟨cap_pos ?_, cap_le _⟩, h.long, h.wide⟩
  have := Int.mul_le_mul h.per.1 hf (by decide) (by have := h.per.1; omega)
  omega
/-! ### the names' dict -/
theorem len_sub : ∀ {l m : List Str}, l.Nodup → (∀ x ∈ l, x ∈ m) → l.length ≤ m.length
  | [], m, _, _ => Nat.zero_le _
  | a :: l, m, hn, hs => by
    have ha : a ∈ m := hs a List.mem_cons_self
    have e : (m.erase a).length = m.length - 1 := List.length_erase_of_mem ha
    have hm : 0 < m.length := List.length_pos_of_mem ha
    have ih : l.length ≤ (m.erase a).length := len_sub (List.nodup_cons.mp hn).2 fun x hx => by
      have hne : x ≠ a := fun q => (List.nodup_cons.mp hn).1 (q ▸ hx)
      exact (List.mem_erase_of_ne hne).mpr (hs x (List.mem_cons_of_mem _ hx))
    show l.length + 1 ≤ m.length
    omega
def kS (k : Key) : Str := match k with
  | .inr x => x
  | .inl _ => Str.empty
structure NowAt (K : PySem.W.Frag) (NS : List Str) (H : Hp) (d : Addr) (kvs : List (Key × V)) (f : Str → M4) : Prop where
  at_ : H d = some (.dK kvs)
  nd : (kvs.map (·.1)).Nodup
  ks : ∀ k ∈ kvs.map (·.1), ∃ x ∈ NS, k = Sum.inr x
  get : ∀ x v, valV kvs (Sum.inr x) = some v → ∃ t, v = .ref t ∧ SqT K H t (mV (f x))
  no : ∀ x, valV kvs (Sum.inr x) = none → f x = first4
theorem NowAt.few {K : PySem.W.Frag} {NS : List Str} {H : Hp} {d : Addr} {kvs : List (Key × V)} {f : Str → M4} (n : NowAt K NS H d kvs f) : kvs.length ≤ NS.length := by
  have h1 : ((kvs.map (·.1)).map kS).Nodup := by
    refine List.Pairwise.map kS ?_ (List.Pairwise.and_mem.mp n.nd)
    rintro a b ⟨ha, hb, hne⟩ e
    obtain ⟨x, _, rfl⟩ := n.ks a ha
    obtain ⟨y, _, rfl⟩ := n.ks b hb
    exact hne (congrArg Sum.inr e)
  have h2 := len_sub (m := NS) h1 fun x hx => by
    obtain ⟨k, hk, rfl⟩ := List.mem_map.mp hx
    obtain ⟨y, hy, rfl⟩ := n.ks k hk
    exact hy
  rw [List.length_map, List.length_map] at h2
  exact h2
theorem sqT_wr {K : PySem.W.Frag} {H : Hp} {t d : Addr} {xs : List V} {u o : HO} (hd : H d = some u) (n1 : ∀ ys, u ≠ .tup ys) (n2 : ∀ a ys, u ≠ .frz a (.tup ys)) (h : SqT K H t xs) : SqT K (upd H d o) t xs := by
  rcases h with (h | ⟨a, h⟩) | h
  · exact .inl (.inl (by rw [upd_ne (fun e => by subst e; rw [hd] at h; exact n1 _ (Option.some.inj h))]; exact h))
  · exact .inl (.inr ⟨a, by rw [upd_ne (fun e => by subst e; rw [hd] at h; exact n2 _ _ (Option.some.inj h))]; exact h⟩)
  · exact .inr h
theorem NowAt.mono {K : PySem.W.Frag} {NS : List Str} {H H' : Hp} {d : Addr} {kvs : List (Key × V)} {f : Str → M4} (n : NowAt K NS H d kvs f) (e : Ex H H') : NowAt K NS H' d kvs f :=
  ⟨e _ _ n.at_, n.nd, n.ks, fun x v h => let ⟨t, e1, e2⟩ := n.get x v h; ⟨t, e1, ex_t e e2⟩, n.no⟩
/-- another instance's store -/
theorem NowAt.other {K : PySem.W.Frag} {NS : List Str} {H : Hp} {d p C dx : Addr} {kvs : List (Key × V)} {f : Str → M4} {fs : List (Str × V)} {o : HO} (n : NowAt K NS H d kvs f) (hp : H p = some (.ins C dx fs)) : NowAt K NS (upd H p o) d kvs f :=
  ⟨by rw [upd_ne (ne_of n.at_ hp (fun z => nomatch z))]; exact n.at_, n.nd, n.ks, fun x v h => let ⟨t, e1, e2⟩ := n.get x v h; ⟨t, e1, sqT_wr hp (fun _ z => nomatch z) (fun _ _ z => nomatch z) e2⟩, n.no⟩
theorem NowAt.put {K : PySem.W.Frag} {NS : List Str} {H : Hp} {d t : Addr} {kvs : List (Key × V)} {f : Str → M4} {x : Str} {m : M4} (n : NowAt K NS H d kvs f) (hx : x ∈ NS) (ht : SqT K H t (mV m)) :
    NowAt K NS (upd H d (.dK (putK kvs (Sum.inr x) (.ref t)))) d (putK kvs (Sum.inr x) (.ref t)) (setN f x m) := by
  have keep : ∀ {t xs}, SqT K H t xs → SqT K (upd H d (.dK (putK kvs (Sum.inr x) (.ref t)))) t xs := fun h => sqT_wr n.at_ (fun _ z => nomatch z) (fun _ _ z => nomatch z) h
  have ek : (putK kvs (Sum.inr x) (V.ref t)).map (·.1) = if valV kvs (Sum.inr x : Key) = none then kvs.map (·.1) ++ [Sum.inr x] else kvs.map (·.1) := by
    by_cases e : valV kvs (Sum.inr x : Key) = none
    · rw [if_pos e, putK_new _ e, List.map_append]
      rfl
    · rw [if_neg e]
      unfold putK
      rw [valV_any, if_pos (by cases q : valV kvs (Sum.inr x : Key) with | none => exact absurd q e | some v => rfl), List.map_map]
      refine List.map_congr_left fun kv _ => ?_
      show (if kv.1 = Sum.inr x then (kv.1, V.ref t) else kv).1 = kv.1
      split <;> rfl
  refine ⟨upd_same, ?_, ?_, fun y v h => ?_, fun y h => ?_⟩
  · rw [ek]
    split
    · rename_i e
      exact nd_snoc n.nd (valV_not e)
    · exact n.nd
  · rw [ek]
    intro k hk
    split at hk
    · rcases List.mem_append.mp hk with hk | hk
      · exact n.ks k hk
      · rw [List.mem_singleton.mp hk]
        exact ⟨x, hx, rfl⟩
    · exact n.ks k hk
  · rw [valV_put] at h
    unfold setN
    by_cases e : y = x
    · subst e
      rw [if_pos rfl] at h ⊢
      cases h
      exact ⟨t, rfl, sqT_wr n.at_ (fun _ z => nomatch z) (fun _ _ z => nomatch z) ht⟩
    · rw [if_neg (fun z => e (Sum.inr.inj z))] at h
      rw [if_neg e]
      obtain ⟨t', e1, e2⟩ := n.get y v h
      exact ⟨t', e1, sqT_wr n.at_ (fun _ z => nomatch z) (fun _ _ z => nomatch z) e2⟩
  · rw [valV_put] at h
    unfold setN
    by_cases e : y = x
    · subst e
      rw [if_pos rfl] at h
      cases h
    · rw [if_neg (fun z => e (Sum.inr.inj z))] at h
      rw [if_neg e]
      exact n.no y h
theorem NowAt.new {K : PySem.W.Frag} {NS : List Str} {H : Hp} {d : Addr} (h : H d = some (.dK [])) : NowAt K NS H d [] (fun _ => first4) :=
  ⟨h, List.nodup_nil, (fun k hk => by cases hk), (fun x v h => by cases h), fun _ _ => rfl⟩
/-! ### the Measure -/
def mfs (d : Addr) (s : MS) : List (Str × V) := [("now", .ref d), ("period", .int s.per), ("longest", .int s.long), ("widest", .int s.wide)]
theorem mfs_now (d s) : (mfs d s).lookup ("now" : Str) = some (.ref d) := by kernel_rfl
theorem mfs_per (d s) : (mfs d s).lookup ("period" : Str) = some (.int s.per) := by kernel_rfl
theorem mfs_long (d s) : (mfs d s).lookup ("longest" : Str) = some (.int s.long) := by kernel_rfl
theorem mfs_wide (d s) : (mfs d s).lookup ("widest" : Str) = some (.int s.wide) := by kernel_rfl
theorem mfs_putNow (d d' : Addr) (s : MS) : putF "now" (.ref d') (mfs d s) = mfs d' s := by kernel_rfl
theorem mfs_putPer (d : Addr) (s : MS) (i : Int) : putF "period" (.int i) (mfs d s) = mfs d { s with per := i } := by kernel_rfl
theorem mfs_putLong (d : Addr) (s : MS) (i : Int) : putF "longest" (.int i) (mfs d s) = mfs d { s with long := i } := by kernel_rfl
theorem mfs_putWide (d : Addr) (s : MS) (i : Int) : putF "widest" (.int i) (mfs d s) = mfs d { s with wide := i } := by kernel_rfl
/-- H0: all that may be asked later (not the Measure, not its dict) -/
structure MeasAt (K : PySem.W.Frag) (NS : List Str) (H0 H : Hp) (p d : Addr) (s : MS) : Prop where
  ex : Ex H0 H
  fr : H0 p = none
  frd : H0 d = none
  ob : ∃ dx, H p = some (.ins (C_Measure K) dx (mfs d s))
  dc : ∃ kvs, NowAt K NS H d kvs s.now
  ok : s.ok
def rm2 (H : Hp) (p d : Addr) : Hp := fun b => if b = p ∨ b = d then none else H b
theorem rm2_ex (H : Hp) (p d : Addr) : Ex (rm2 H p d) H := fun a o h => by
  unfold rm2 at h
  split at h
  · cases h
  · exact h
theorem rm2_of {H : Hp} {p d a : Addr} {o : HO} (h : H a = some o) (h1 : a ≠ p) (h2 : a ≠ d) : rm2 H p d a = some o := by
  unfold rm2
  rw [if_neg (by rintro (z | z) <;> contradiction)]
  exact h
section
variable {K : PySem.W.Frag} {NS : List Str} {H0 H H' : Hp} {p d d' : Addr} {s s' : MS}
theorem MeasAt.big (m : MeasAt K NS H0 H p d s) : MeasAt K NS (rm2 H p d) H p d s :=
  ⟨rm2_ex _ _ _, by unfold rm2; rw [if_pos (.inl rfl)], by unfold rm2; rw [if_pos (.inr rfl)], m.ob, m.dc, m.ok⟩
theorem MeasAt.sub (m : MeasAt K NS H0 H p d s) : Ex H0 (rm2 H p d) := fun a o h =>
  rm2_of (m.ex a o h) (fun e => by rw [e, m.fr] at h; cases h) (fun e => by rw [e, m.frd] at h; cases h)
/-- behind a call that was told the greater heap -/
theorem MeasAt.back (m : MeasAt K NS H0 H p d s) (m' : MeasAt K NS (rm2 H p d) H' p d' s') : MeasAt K NS H0 H' p d' s' :=
  ⟨m.sub.trans m'.ex, m.fr, fresh_back m.sub m'.frd, m'.ob, m'.dc, m'.ok⟩
theorem MeasAt.keep (m : MeasAt K NS H0 H p d s) (m' : MeasAt K NS (rm2 H p d) H' p d' s') {a : Addr} {o : HO} (h : H a = some o) (h1 : a ≠ p) (h2 : a ≠ d) : H' a = some o := m'.ex _ _ (rm2_of h h1 h2)
theorem MeasAt.keepT (m : MeasAt K NS H0 H p d s) (m' : MeasAt K NS (rm2 H p d) H' p d' s') {a : Addr} {xs : List V} (h : SqT K H a xs) : SqT K H' a xs := by
  obtain ⟨dx, hp⟩ := m.ob
  obtain ⟨kvs, n⟩ := m.dc
  rcases h with (h | ⟨o, h⟩) | h
  · exact .inl (.inl (m.keep m' h (ne_of h hp (fun z => nomatch z)) (ne_of h n.at_ (fun z => nomatch z))))
  · exact .inl (.inr ⟨o, m.keep m' h (ne_of h hp (fun z => nomatch z)) (ne_of h n.at_ (fun z => nomatch z))⟩)
  · exact .inr h
theorem MeasAt.keepL (m : MeasAt K NS H0 H p d s) (m' : MeasAt K NS (rm2 H p d) H' p d' s') {a : Addr} {xs : List V} (h : H a = some (.lst xs)) : H' a = some (.lst xs) := by
  obtain ⟨dx, hp⟩ := m.ob
  obtain ⟨kvs, n⟩ := m.dc
  exact m.keep m' h (ne_of h hp (fun z => nomatch z)) (ne_of h n.at_ (fun z => nomatch z))
theorem MeasAt.mono (m : MeasAt K NS H0 H p d s) (e : Ex H H') : MeasAt K NS H0 H' p d s :=
  ⟨m.ex.trans e, m.fr, m.frd, let ⟨dx, h⟩ := m.ob; ⟨dx, e _ _ h⟩, let ⟨kvs, n⟩ := m.dc; ⟨kvs, n.mono e⟩, m.ok⟩
/-- an attribute of the Measure is stored -/
theorem MeasAt.set (m : MeasAt K NS H0 H p d s) {dx : Addr} (hp : H p = some (.ins (C_Measure K) dx (mfs d s))) (en : s'.now = s.now) (ok : s'.ok) : MeasAt K NS H0 (upd H p (.ins (C_Measure K) dx (mfs d s'))) p d s' :=
  ⟨m.ex.mut m.fr, m.fr, m.frd, ⟨dx, upd_same⟩, let ⟨kvs, n⟩ := m.dc; ⟨kvs, by rw [en]; exact n.other hp⟩, ok⟩
end
/-! ### rows and tests in the heap -/
def isNm (x : Str) : Prop := (1 ≤ x.cps.size ∧ x.cps.size ≤ 4) ∧ ∀ c ∈ x.cps.toList, 97 ≤ c ∧ c ≤ 122
def PT.depth : PT → Nat
  | .ask _ _ => 0
  | .not t => t.depth + 1
/-- how many lines, how many rows at most -/
def LB : Nat → Nat
  | 0 => 0
  | d + 1 => 3 + 24 * LB d
section
variable (K : PySem.W.Frag) (NS : List Str)
def TestAt (H : Hp) : V → PT → Prop
  | v, .ask word ns => ∃ (a dx u n : Addr) (txt : Str), v = .ref a ∧ H a = some (.ins (C_Ask K) dx [("text", .str txt), ("used", .ref u), ("word", .str word), ("names", .ref n)]) ∧ SqT K H u (ns.map V.str) ∧ SqT K H n (ns.map V.str) ∧ txt.length ≤ 20
  | v, .not t => ∃ (a dx u : Addr) (txt : Str) (v' : V) (us : List Str), v = .ref a ∧ H a = some (.ins (C_Not K) dx [("text", .str txt), ("used", .ref u), ("test", v')]) ∧ SqT K H u (us.map V.str) ∧ (us.length ≤ 2 ∧ ∀ x ∈ us, x ∈ NS) ∧ txt.length ≤ 20 + 4 * (PT.not t).depth ∧ TestAt H v' t
/-- the parts that each row has: lines, inner, used -/
structure RowP (H : Hp) (n : Nat) (l i u : Addr) (vs : List V) : Prop where
  lines : ∃ ls, SqT K H l ls ∧ ls.length ≤ n
  inner : SqT K H i vs
  used : ∃ us : List Str, SqT K H u (us.map V.str) ∧ us.length ≤ 8 ∧ ∀ x ∈ us, x ∈ NS
def RowAt : (d : Nat) → Hp → V → Rw d → Prop
  | 0, _, _, r => nomatch r
  | d + 1, H, v, r => match (r : RF (Rw d)) with
    | .put x g => ∃ (a dx l i u gv : Addr), v = .ref a ∧ H a = some (.ins (C_Put K) dx [("lines", .ref l), ("inner", .ref i), ("used", .ref u), ("name", .str x), ("deed", .str g.deed), ("given", .ref gv)]) ∧ RowP K NS H (LB (d + 1)) l i u [] ∧ SqT K H gv g.given
    | .stop => ∃ (a dx l i u : Addr), v = .ref a ∧ H a = some (.ins (C_Stop K) dx [("lines", .ref l), ("inner", .ref i), ("used", .ref u)]) ∧ RowP K NS H (LB (d + 1)) l i u []
    | .times n rs => ∃ (a dx ra l i u : Addr) (vs : List V), v = .ref a ∧ H a = some (.ins (C_Times K) dx [("count", .int n), ("rows", .ref ra), ("lines", .ref l), ("inner", .ref i), ("used", .ref u)]) ∧ RowP K NS H (LB (d + 1)) l i u vs ∧ SqT K H ra vs ∧ Paired (RowAt d H) vs rs
    | .ife t rs os => ∃ (a dx ra oa l i u : Addr) (tv : V) (vs ws : List V), v = .ref a ∧ H a = some (.ins (C_If K) dx [("test", tv), ("rows", .ref ra), ("others", .ref oa), ("lines", .ref l), ("inner", .ref i), ("used", .ref u)]) ∧
        RowP K NS H (LB (d + 1)) l i u (vs ++ ws) ∧ TestAt K NS H tv t ∧ (SqT K H ra vs ∧ Paired (RowAt d H) vs rs) ∧ SqT K H oa ws ∧ Paired (RowAt d H) ws os
abbrev RowsAt (d : Nat) (H : Hp) (vs : List V) (rs : List (Rw d)) : Prop := Paired (RowAt K NS d H) vs rs
end
section
variable {K : PySem.W.Frag} {NS : List Str} {H H' : Hp}
theorem TestAt.mono (e : Ex H H') : ∀ {t : PT} {v : V}, TestAt K NS H v t → TestAt K NS H' v t
  | .ask word ns, v, ⟨a, dx, u, n, txt, h1, h2, h3, h4, h5⟩ => ⟨a, dx, u, n, txt, h1, e _ _ h2, ex_t e h3, ex_t e h4, h5⟩
  | .not t, v, ⟨a, dx, u, txt, v', us, h1, h2, h3, h4, h5, h6⟩ => ⟨a, dx, u, txt, v', us, h1, e _ _ h2, ex_t e h3, h4, h5, TestAt.mono e h6⟩
theorem RowP.mono {n : Nat} {l i u : Addr} {vs : List V} (e : Ex H H') (h : RowP K NS H n l i u vs) : RowP K NS H' n l i u vs :=
  ⟨let ⟨ls, h1, h2⟩ := h.lines; ⟨ls, ex_t e h1, h2⟩, ex_t e h.inner, let ⟨us, h1, h2⟩ := h.used; ⟨us, ex_t e h1, h2⟩⟩
theorem RowAt.mono (e : Ex H H') : ∀ {d : Nat} {v : V} {r : Rw d}, RowAt K NS d H v r → RowAt K NS d H' v r
  | 0, _, r, _ => nomatch r
  | d + 1, v, r, h => by
    cases r with
    | put x g =>
      obtain ⟨a, dx, l, i, u, gv, h1, h2, h3, h4⟩ := h
      exact ⟨a, dx, l, i, u, gv, h1, e _ _ h2, h3.mono e, ex_t e h4⟩
    | stop =>
      obtain ⟨a, dx, l, i, u, h1, h2, h3⟩ := h
      exact ⟨a, dx, l, i, u, h1, e _ _ h2, h3.mono e⟩
    | times n rs =>
      obtain ⟨a, dx, ra, l, i, u, vs, h1, h2, h3, h4, h5⟩ := h
      exact ⟨a, dx, ra, l, i, u, vs, h1, e _ _ h2, h3.mono e, ex_t e h4, Paired.mapP h5 fun a b z => RowAt.mono e z⟩
    | ife t rs os =>
      obtain ⟨a, dx, ra, oa, l, i, u, tv, vs, ws, h1, h2, h3, h4, ⟨h5, h6⟩, h7, h8⟩ := h
      exact ⟨a, dx, ra, oa, l, i, u, tv, vs, ws, h1, e _ _ h2, h3.mono e, h4.mono e, ⟨ex_t e h5, Paired.mapP h6 fun a b z => RowAt.mono e z⟩, ex_t e h7, Paired.mapP h8 fun a b z => RowAt.mono e z⟩
theorem RowsAt.mono (e : Ex H H') {d : Nat} {vs : List V} {rs : List (Rw d)} (h : RowsAt K NS d H vs rs) : RowsAt K NS d H' vs rs := Paired.mapP h fun _ _ z => z.mono e
end
/-! ### what measured gives is from 1 on -/
theorem mul1 {a b : Int} (h1 : 1 ≤ a) (h2 : 1 ≤ b) : 1 ≤ a * b := by
  have := Int.mul_le_mul h1 h2 (by decide) (by omega)
  omega
theorem ofOne_pos {d : Str} {m : M4} (h : m.ok) : 1 ≤ (ofOne d m).1 ∧ 1 ≤ (ofOne d m).2 := by
  obtain ⟨⟨h1, h2⟩, h3, h4⟩ := h
  have h5 := mul1 h1 (show 1 ≤ m.2.1 + 2 by omega)
  unfold ofOne
  repeat' split
  all_goals exact ⟨by dsimp only; omega, by dsimp only; omega⟩
theorem ofTwo_pos {d : Str} {a b : M4} {per : Int} (ha : a.ok) (hb : b.ok) : 1 ≤ (ofTwo d a b per).1.1 ∧ 1 ≤ (ofTwo d a b per).1.2 := by
  have hm := moreBy_ok (a := a) hb
  obtain ⟨⟨h1, h2⟩, h3, h4⟩ := ha
  obtain ⟨⟨g1, g2⟩, g3, g4⟩ := hb
  have e1 := gr_l a.1 b.1
  have e2 := gr_l a.2.1 b.2.1
  have e3 := mul1 h3 g3
  have e4 := mul1 h3 hm.1
  have e5 := mul1 g3 (show 1 ≤ a.2.1 * moreBy a b + 1 by omega)
  unfold ofTwo
  split
  · exact ⟨by dsimp only; omega, by dsimp only; omega⟩
  split
  · exact ⟨by dsimp only; omega, by dsimp only; omega⟩
  split
  · exact ⟨by dsimp only; omega, by dsimp only; omega⟩
  split
  · refine ⟨h1, ?_⟩
    dsimp only
    split <;> omega
  split
  · dsimp only
    split
    · exact ⟨(show (1:Int) ≤ 1 by decide), g3⟩
    · exact ⟨g1, by dsimp only; omega⟩
  · exact ⟨by dsimp only; omega, by dsimp only; omega⟩
theorem meas_pos {NS : List Str} {g : PutG} {s : MS} (wf : g.wf NS) (h : s.ok) : 1 ≤ (meas g s).1.1 ∧ 1 ≤ (meas g s).1.2 := by
  cases g with
  | figs ks =>
    refine ⟨?_, gr_l _ _⟩
    have := wf.1.1
    show (1 : Int) ≤ ks.length
    omega
  | num k => exact ⟨(show (1:Int) ≤ 1 by decide), gr_l _ _⟩
  | base => exact ⟨(show (1:Int) ≤ 2 by decide), (show (1:Int) ≤ 1 by decide)⟩
  | pow x k =>
    have := Int.mul_nonneg wf.2.1 (show 0 ≤ (s.now x).1 - 1 by have := (h.now x).1.1; omega)
    exact ⟨by show 1 ≤ k * ((s.now x).1 - 1) + 1; omega, pw_pos _ _⟩
  | one d x => exact ofOne_pos (h.now x)
  | kone d k x => exact ofOne_pos (h.now x)
  | two d x y => exact ofTwo_pos (h.now x) (h.now y)
/-! ### lists of names and values -/
def argStr : V → Option V
  | .str x => some (.str x)
  | _ => none
theorem argStr_ints : ∀ ks : List Int, (ks.map V.int).filterMap argStr = []
  | [] => rfl
  | _ :: r => argStr_ints r
theorem given_names : ∀ g : PutG, g.given.filterMap argStr = g.names.map V.str
  | .figs ks => argStr_ints ks
  | .num _ => rfl
  | .base => rfl
  | .pow _ _ => rfl
  | .one _ _ => rfl
  | .kone _ _ _ => rfl
  | .two _ _ _ => rfl
theorem given_kind {g : PutG} {v : V} (h : v ∈ g.given) : (∃ z, v = .int z) ∨ ∃ x, v = .str x := by
  cases g with
  | figs ks =>
    obtain ⟨z, _, rfl⟩ := List.mem_map.mp h
    exact .inl ⟨z, rfl⟩
  | num k => exact .inl ⟨k, List.mem_singleton.mp h⟩
  | base => cases h
  | pow x k =>
    rcases List.mem_cons.mp h with rfl | h
    · exact .inr ⟨x, rfl⟩
    · exact .inl ⟨k, List.mem_singleton.mp h⟩
  | one d x => exact .inr ⟨x, List.mem_singleton.mp h⟩
  | kone d k x =>
    rcases List.mem_cons.mp h with rfl | h
    · exact .inl ⟨k, rfl⟩
    · exact .inr ⟨x, List.mem_singleton.mp h⟩
  | two d x y =>
    rcases List.mem_cons.mp h with rfl | h
    · exact .inr ⟨x, rfl⟩
    · exact .inr ⟨y, List.mem_singleton.mp h⟩
theorem given_few {NS : List Str} {g : PutG} (wf : g.wf NS) : g.given.length ≤ 6 := by
  cases g with
  | figs ks =>
    show (ks.map V.int).length ≤ 6
    rw [List.length_map]
    exact wf.1.2
  | num k => exact (show 1 ≤ 6 by decide)
  | base => exact (show 0 ≤ 6 by decide)
  | pow x k => exact (show 2 ≤ 6 by decide)
  | one d x => exact (show 1 ≤ 6 by decide)
  | kone d k x => exact (show 2 ≤ 6 by decide)
  | two d x y => exact (show 2 ≤ 6 by decide)
theorem names_few : ∀ g : PutG, g.names.length ≤ 2
  | .figs _ => (show 0 ≤ 2 by decide)
  | .num _ => (show 0 ≤ 2 by decide)
  | .base => (show 0 ≤ 2 by decide)
  | .pow _ _ => (show 1 ≤ 2 by decide)
  | .one _ _ => (show 1 ≤ 2 by decide)
  | .kone _ _ _ => (show 1 ≤ 2 by decide)
  | .two _ _ _ => (show 2 ≤ 2 by decide)
theorem names_in {NS : List Str} {g : PutG} (wf : g.wf NS) : ∀ x ∈ g.names, x ∈ NS := by
  intro x h
  cases g with
  | figs ks => cases h
  | num k => cases h
  | base => cases h
  | pow y k => rw [List.mem_singleton.mp h]; exact wf.1
  | one d y => rw [List.mem_singleton.mp h]; exact wf.2
  | kone d k y => rw [List.mem_singleton.mp h]; exact wf.2.2
  | two d y z =>
    rcases List.mem_cons.mp h with rfl | h
    · exact wf.2.1
    · rw [List.mem_singleton.mp h]; exact wf.2.2
theorem pmap {α β γ : Type} {R : β → γ → Prop} {f : α → β} {h : α → γ} : ∀ {l : List α}, (∀ x ∈ l, R (f x) (h x)) → Paired R (l.map f) (l.map h)
  | [], _ => .nil
  | _ :: _, q => .cons (q _ List.mem_cons_self) (pmap fun x hx => q x (List.mem_cons_of_mem _ hx))
theorem pmap2 {α β γ δ : Type} {R : α → β → Prop} {S : γ → δ → Prop} {f : α → γ} {h : β → δ} : ∀ {l : List α} {m : List β}, Paired R l m → (∀ x y, R x y → S (f x) (h y)) → Paired S (l.map f) (m.map h)
  | _, _, .nil, _ => .nil
  | _, _, .cons r t, q => .cons (q _ _ r) (pmap2 t q)
theorem timesO_now (s : MS) (o : Option Int) : (s.timesO o).now = s.now := by cases o <;> rfl
theorem timesO_long (s : MS) (o : Option Int) : (s.timesO o).long = s.long := by cases o <;> rfl
theorem timesO_wide (s : MS) (o : Option Int) : (s.timesO o).wide = s.wide := by cases o <;> rfl
section
variable {K : PySem.W.Frag} {NS : List Str} {H0 H : Hp} {p d t : Addr} {s : MS} {kvs : List (Key × V)} {x : Str} {q : M4}
theorem MeasAt.putNow (m : MeasAt K NS H0 H p d s) (n : NowAt K NS H d kvs s.now) (hx : x ∈ NS) (ht : SqT K H t (mV q)) (hq : q.ok) : MeasAt K NS H0 (upd H d (.dK (putK kvs (Sum.inr x) (.ref t)))) p d { s with now := setN s.now x q } := by
  obtain ⟨dx, hp⟩ := m.ob
  refine ⟨m.ex.mut m.frd, m.fr, m.frd, ⟨dx, by rw [upd_ne (ne_of hp n.at_ (fun z => nomatch z))]; exact hp⟩, ⟨_, n.put hx ht⟩, fun y => ?_, m.ok.per, m.ok.long, m.ok.wide⟩
  show (if y = x then q else s.now y).ok
  split
  · exact hq
  · exact m.ok.now y
end
end E97
set_option Elab.async false
set_option linter.all false
set_option maxRecDepth 100000
set_option maxHeartbeats 4000000
/-! P2: the Measure's methods -/
namespace E97
open PySem PySem.Spec PyProof.Rows L2 Evl
def sp_Measure_init (K : PySem.W.Frag) (NS : List Str) : SP0 := fun vs H Q => ∃ (p dx : Addr) (H0 : Hp), vs = [.ref p] ∧ Ex H0 H ∧ H0 p = none ∧ H p = some (.ins (C_Measure K) dx []) ∧ ∀ d H', MeasAt K NS H0 H' p d ms0 → Q .non H'
/-- what told_of gives -/
def told (K : PySem.W.Frag) (kvs : List (Key × V)) (x : Str) : V := (valV kvs (Sum.inr x : Key)).getD (.ref (He.ga K "AT_FIRST"))
theorem told_at {w : World} {K : PySem.W.Frag} {mg : Str → Option Value} (T : Txt w K mg) {NS : List Str} {H : Hp} {d : Addr} {kvs : List (Key × V)} {f : Str → M4} (n : NowAt K NS H d kvs f) (x : Str) : ∃ t, told K kvs x = .ref t ∧ SqT K H t (mV (f x)) := by
  unfold told
  cases e : valV kvs (Sum.inr x : Key) with
  | some v => exact n.get x v e
  | none =>
    refine ⟨_, rfl, ?_⟩
    rw [n.no x e]
    exact He.tupB_ok T.x_AT_FIRST H
def sp_Measure_told_of (K : PySem.W.Frag) : SP0 := fun vs H Q => ∃ (p dx d : Addr) (x : Str) (kvs : List (Key × V)) (s : MS), vs = [.ref p, .str x] ∧ H p = some (.ins (C_Measure K) dx (mfs d s)) ∧ H d = some (.dK kvs) ∧ Q (told K kvs x) H
def sp_Measure_times (K : PySem.W.Frag) (NS : List Str) : SP0 := fun vs H Q => ∃ (p d : Addr) (f : Int) (H0 : Hp) (s : MS), vs = [.ref p, .int f] ∧ MeasAt K NS H0 H p d s ∧ 1 ≤ f ∧ ∀ H', MeasAt K NS H0 H' p d (s.times f) → Q .non H'
def sp_Measure_more_by (K : PySem.W.Frag) (NS : List Str) : SP0 := fun vs H Q => ∃ (p d a b : Addr) (m1 m2 : M4) (H0 : Hp) (s : MS), vs = [.ref p, .ref a, .ref b] ∧ MeasAt K NS H0 H p d s ∧ (SqT K H a (mV m1) ∧ SqT K H b (mV m2) ∧ m1.ok ∧ m2.ok) ∧
  ∀ H', MeasAt K NS H0 H' p d (s.times (moreBy m1 m2)) → Q (.int (moreBy m1 m2)) H'
def sp_Measure_of_two (K : PySem.W.Frag) (NS : List Str) : SP0 := fun vs H Q => ∃ (p d l a b : Addr) (dd : Str) (m1 m2 : M4) (H0 : Hp) (s : MS), vs = [.ref p, .str dd, .ref l] ∧ MeasAt K NS H0 H p d s ∧ (H l = some (.lst [.ref a, .ref b]) ∧ SqT K H a (mV m1) ∧ SqT K H b (mV m2) ∧ m1.ok ∧ m2.ok) ∧
  ∀ q H', MeasAt K NS H0 H' p d (s.timesO (ofTwo dd m1 m2 s.per).2) → H' q = some (.tup [.int (ofTwo dd m1 m2 s.per).1.1, .int (ofTwo dd m1 m2 s.per).1.2]) → Q (.ref q) H'
/-- a Put's attributes -/
def pfs (l i u gv : Addr) (x : Str) (g : PutG) : List (Str × V) := [("lines", .ref l), ("inner", .ref i), ("used", .ref u), ("name", .str x), ("deed", .str g.deed), ("given", .ref gv)]
theorem pfs_name (l i u gv x g) : (pfs l i u gv x g).lookup ("name" : Str) = some (.str x) := by kernel_rfl
theorem pfs_deed (l i u gv x g) : (pfs l i u gv x g).lookup ("deed" : Str) = some (.str g.deed) := by kernel_rfl
theorem pfs_given (l i u gv x g) : (pfs l i u gv x g).lookup ("given" : Str) = some (.ref gv) := by kernel_rfl
def sp_Measure_measured (K : PySem.W.Frag) (NS : List Str) : SP0 := fun vs H Q => ∃ (p d a dx l i u gv tl : Addr) (x : Str) (g : PutG) (ts : List Addr) (H0 : Hp) (s : MS), vs = [.ref p, .ref a, .ref tl] ∧ MeasAt K NS H0 H p d s ∧
  (H a = some (.ins (C_Put K) dx (pfs l i u gv x g)) ∧ SqT K H gv g.given ∧ g.wf NS) ∧ H tl = some (.lst (ts.map V.ref)) ∧ Paired (fun t x => SqT K H t (mV (s.now x))) ts g.names ∧
  ∀ q H', MeasAt K NS H0 H' p d (s.timesO (meas g s).2) → H' q = some (.tup [.int (meas g s).1.1, .int (meas g s).1.2]) → Q (.ref q) H'
def sp_Measure_note (K : PySem.W.Frag) (NS : List Str) : SP0 := fun vs H Q => ∃ (p d a dx l i u gv : Addr) (x : Str) (g : PutG) (H0 : Hp) (s : MS), vs = [.ref p, .ref a] ∧ MeasAt K NS H0 H p d s ∧
  (H0 a = some (.ins (C_Put K) dx (pfs l i u gv x g)) ∧ SqT K H0 gv g.given ∧ g.wf NS ∧ x ∈ NS ∧ NS.length ≤ 20) ∧ ∀ H', MeasAt K NS H0 H' p d (noteM x g s) → Q .non H'
section
variable {P : Program} {w : World} {K : PySem.W.Frag} {mg : Str → Option Value} {base : Heap} {NS : List Str}
theorem inV_mem (d : Str) (zs : List Str) : inV (.str d) (zs.map V.str) = decide (d ∈ zs) := by
  induction zs with
  | nil => rfl
  | cons z r ih =>
    show (z == d || inV (.str d) (r.map V.str)) = _
    rw [ih]
    by_cases e : z = d
    · subst e; simp
    · have e2 : ¬ d = z := fun q => e q.symm
      simp [e, e2]
/-- deed in (written texts) -/
theorem inC {K : PySem.W.Frag} {σ : L2.St} {H : Hp} {i : Nat} {d : Str} {ta : TA} (zs : List V) (hi : σ[i]? = some (some (.str d))) (ha : EvA ta σ H zs := by exact ea_cons ev_c (ea_cons ev_c ea_nil)) (hz : zs.length ≤ 100000 := by decide) (hf : zs.all flatV = true := by rfl) :
    EvT (tTest (tOp (rIn K false) (tVar i) (tTup ta))) σ H (inV (.str d) zs) := et_test (ev_inU (ev_var hi) (eu_tup ha hz) rfl hf)
theorem in2 {d x y : Str} (c : inV (.str d) [.str x, .str y] = true) : d = x ∨ d = y := by
  have h : inV (.str d) ([x, y].map V.str) = true := c
  rw [inV_mem] at h
  have h2 := of_decide_eq_true h
  rcases List.mem_cons.mp h2 with e | e
  · exact .inl e
  · exact .inr (List.mem_singleton.mp e)
theorem ni2 {d x y : Str} (c : inV (.str d) [.str x, .str y] = false) : ¬ (d = x ∨ d = y) := by
  have h : inV (.str d) ([x, y].map V.str) = false := c
  rw [inV_mem] at h
  have h2 := of_decide_eq_false h
  rintro (e | e)
  · exact h2 (e ▸ List.mem_cons_self)
  · exact h2 (e ▸ List.mem_cons_of_mem _ List.mem_cons_self)
theorem sz2 : 2 ≤ sizeLine := by decide
theorem ok_Measure_init (T : Txt w K mg) : FR P w K mg base 1 (a_Measure_init K) (sp_Measure_init K NS) := by
  obtain ⟨fd, F⟩ := T.d_Measure_init
  refine mkR F sc_Measure_init (fun _ _ _ _ _ _ us hl => match us, hl with | [_], _ => rfl) (fun vs H Q h => by obtain ⟨p, dx, H0, rfl, e0, hp0, hp, k⟩ := h; rfl) fun cdv A outer s H vs Q E hr h => ?_
  obtain ⟨p, dx, H0, rfl, e0, hp0, hp, k⟩ := h
  refine ⟨_, (pss_cons (kps_fld (K := K) rfl (pv 0) pe_dnewK rfl)
  (pss_cons (kps_fld (K := K) rfl (pv 0) pe_int rfl)
  (pss_cons (kps_fld (K := K) rfl (pv 0) pe_int rfl)
  (pss_one (kps_fld (K := K) rfl (pv 0) pe_int rfl))))), ?_⟩
  intro d hd
  have npd : p ≠ d := ne_of_none hp hd
  refine ⟨_, rfl, p, _, dx, [], rfl, (by rw [upd_ne npd]; exact hp), T.c_Measure, T.n_Measure_now, (by show 0 < 1000; decide), ?_⟩
  refine ⟨_, rfl, p, _, dx, _, rfl, upd_same, T.c_Measure, T.n_Measure_period, (by show 1 < 1000; decide), ?_⟩
  refine ⟨_, rfl, p, _, dx, _, rfl, upd_same, T.c_Measure, T.n_Measure_longest, (by show 2 < 1000; decide), ?_⟩
  refine ⟨_, rfl, p, _, dx, _, rfl, upd_same, T.c_Measure, T.n_Measure_widest, (by show 3 < 1000; decide), ?_⟩
  refine k d _ ⟨((((e0.trans (Ex.new hd)).mut hp0).mut hp0).mut hp0).mut hp0, hp0, fresh_back e0 hd, ⟨dx, upd_same.trans (by kernel_rfl)⟩, ⟨[], NowAt.new ?_⟩, ⟨fun _ => first4_ok, by decide, by decide, by decide⟩⟩
  rw [upd_ne npd.symm, upd_ne npd.symm, upd_ne npd.symm, upd_ne npd.symm]
  exact upd_same
theorem ok_Measure_told_of (T : Txt w K mg) : FR P w K mg base 1 (a_Measure_told_of K) (sp_Measure_told_of K) := by
  obtain ⟨fd, F⟩ := T.d_Measure_told_of
  refine mkR F sc_Measure_told_of (fun _ _ _ _ _ _ us hl => match us, hl with | [_, _], _ => rfl) (fun vs H Q h => by obtain ⟨p, dx, d, x, kvs, s, rfl, hp, hd, k⟩ := h; rfl) fun cdv A outer s H vs Q E hr h => ?_
  obtain ⟨p, dx, d, x, kvs, s, rfl, hp, hd, k⟩ := h
  refine ⟨_, (pss_one (ps_ret (pe_dget2 (hu_of hr) (kfld (K := K) rfl (pv 0) rfl) (pv 1) (pe_glob (v := .ref _) rfl T.g_AT_FIRST rfl) (by exact ⟨by rfl, by rfl, by rfl, by rfl⟩)))), ?_⟩
  exact ⟨_, rfl, p, _, dx, _, _, rfl, hp, T.c_Measure, T.n_Measure_now, mfs_now d s, d, rfl, .inl ⟨kvs, .inl hd⟩, _, rfl, _, DGet.k (k := Sum.inr x) hd, k⟩
theorem ok_Measure_times (T : Txt w K mg) : FR P w K mg base 2 (a_Measure_times K) (sp_Measure_times K NS) := by
  obtain ⟨fd, F⟩ := T.d_Measure_times
  refine mkR F sc_Measure_times (fun _ _ _ _ _ _ us hl => match us, hl with | [_, _], _ => rfl) (fun vs H Q h => by obtain ⟨p, d, f, H0, s, rfl, m, hf, k⟩ := h; rfl) fun cdv A outer s H vs Q E hr h => ?_
  obtain ⟨p, d, f, H0, s, rfl, m, hf, k⟩ := h
  refine ⟨_, (pss_one (kps_fld (K := K) rfl (pv 0) (pe_callF (ok_capped (K := K) T) (hr.mono (by omega)) (by rfl) T.g_capped T.k_capped (pa_cons (pe_op op_mul (kfld (K := K) rfl (pv 0) rfl) (pv 1)) pa_nil)) rfl)), ?_⟩
  obtain ⟨dx, hp⟩ := m.ob
  have b := m.ok.per
  refine ⟨_, rfl, p, _, dx, _, _, rfl, hp, T.c_Measure, T.n_Measure_period, mfs_per d s, _, rfl, _, _, rfl, rfl, .inl ⟨by omega, by omega⟩, _, rfl, ?_⟩
  refine ⟨_, rfl, p, _, dx, _, rfl, hp, T.c_Measure, T.n_Measure_period, (by show 4 < 1000; decide), ?_⟩
  show Q .non (upd H p (.ins _ dx (putF "period" (.int (cap (s.per * f))) (mfs d s))))
  rw [mfs_putPer]
  exact k _ (m.set (s' := s.times f) hp rfl (times_ok m.ok hf))
theorem ok_Measure_more_by (T : Txt w K mg) : FR P w K mg base 3 (a_Measure_more_by K) (sp_Measure_more_by K NS) := by
  obtain ⟨fd, F⟩ := T.d_Measure_more_by
  obtain ⟨tkBEYOND, gBEYOND⟩ := T.i_BEYOND
  refine mkR F sc_Measure_more_by (fun _ _ _ _ _ _ us hl => match us, hl with | [_, _, _], _ => rfl) (fun vs H Q h => by obtain ⟨p, d, a, b, m1, m2, H0, s, rfl, m, ⟨h1, h2, o1, o2⟩, k⟩ := h; rfl) fun cdv A outer s H vs Q E hr h => ?_
  obtain ⟨p, d, a, b, m1, m2, H0, s, rfl, m, ⟨h1, h2, o1, o2⟩, k⟩ := h
  refine ⟨_, (pss_cons (ps_asg (pe_tup (pa_cons (pe_ix (kix_tup (K := K) rfl) (pv 1) pe_int (fun _ _ => rfl)) (pa_cons (pe_slice (ksl_tup (K := K) rfl) (pv 2) po_none (po_some pe_int)) pa_nil))) (kpg_tup (K := K) (n := 2) rfl (by rfl) (pgs_cons (pg_name (i := 3) sc_Measure_more_by.nd rfl (Or.inl rfl)) (pgs_cons (kpg_tup (K := K) (n := 3) rfl (by rfl) (pgs_cons (pg_name (i := 4) sc_Measure_more_by.nd rfl (Or.inl rfl)) (pgs_cons (pg_name (i := 5) sc_Measure_more_by.nd rfl (Or.inl rfl)) (pgs_cons (pg_name (i := 6) sc_Measure_more_by.nd rfl (Or.inl rfl)) pgs_nil)))) pgs_nil))))
  (pss_cut (ps_if (pt_cmpR op_eq (pv 4) pe_int (nomark _)) (pss_one (ps_set (i := 7) sc_Measure_more_by.nd rfl (Or.inl rfl) (pe_ifExp (pt_val (pv 6)) (pv 5) (pe_callF (ok_multiple_of (K := K) T) (hr.mono (by omega)) (by rfl) T.g_multiple_of T.k_multiple_of (pa_cons (pv 5) pa_nil))))) (pss_one (ps_set (i := 7) sc_Measure_more_by.nd rfl (Or.inl rfl) (pe_ifExp (pt_val (pv 6)) (pe_callF (ok_power (K := K) T) (hr.mono (by omega)) (by rfl) T.g_power_measures T.k_power (pa_cons (pv 5) (pa_cons (pv 3) pa_nil))) (pe_glob (v := .int 1000) rfl gBEYOND ⟨_, rfl⟩)))))
  (pss_cons (ps_expr (pe_methF (pv 0) T.c_Measure T.m_Measure_times (ok_Measure_times (K := K) (NS := NS) T) (hr.mono (by omega)) (pa_cons (pv 7) pa_nil)))
  (pss_one (ps_ret (pv 7)))))), ?_⟩
  obtain ⟨n, s', st, sr⟩ := m1
  obtain ⟨m', t, tt, tr⟩ := m2
  obtain ⟨⟨b1, b2⟩, b3, b4⟩ := o2
  dsimp only at b1 b2 b3 b4
  refine ⟨_, rfl, _, _, _, _, rfl, rfl, h1, rfl, _, rfl, 3, rfl, b, _, rfl, h2, (fun z => absurd z (show ¬ (HT.sIx 4 0 none = 0 ∧ HT.sIx 4 4 (some 3) = 4) by decide)), fun _ q hq => ?_⟩
  refine ⟨sz2, fun u hu => ?_⟩
  have e2 := (Ex.new (o := .tup (cutV (mV (m', t, tt, tr)) none (some 3))) hq).trans (Ex.new (o := .tup [.int n, .ref q]) hu)
  refine ⟨u, _, rfl, SqT.of upd_same, rfl, _, _, rfl, _, _, rfl, q, _, rfl, ex_t (Ex.new hu) (SqT.of upd_same), rfl, _, _, rfl, _, _, rfl, _, _, rfl, rfl, rfl, ?_⟩
  refine ⟨fun σ' H' => Ex H H' ∧ σ' = [some (.ref p), some (.ref a), some (.ref b), some (.int n), some (.int m'), some (.int t), some (.bl tt), some (.int (moreBy (n, s', st, sr) (m', t, tt, tr)))], ?_, ?_⟩
  · refine ⟨_, rfl, rfl, _, rfl, iteI (fun c => ?_) (fun c => ?_)⟩
    · have z : moreBy (n, s', st, sr) (m', t, tt, tr) = if tt then t else mulOf t := by unfold moreBy; rw [if_pos c]
      cases tt with
      | true => exact ⟨_, rfl, true, rfl, _, rfl, e2, by rw [z]; rfl⟩
      | false => exact ⟨_, rfl, false, rfl, _, rfl, _, rfl, (show (0 : Int) ≤ t by omega), e2, by rw [z]; rfl⟩
    · have z : moreBy (n, s', st, sr) (m', t, tt, tr) = if tt then pw t n else 1000 := by unfold moreBy; rw [if_neg c]
      cases tt with
      | true => exact ⟨_, rfl, true, rfl, _, rfl, _, rfl, _, _, rfl, ⟨(show (0 : Int) ≤ t by omega), b4⟩, fun H' e => ⟨e2.trans e, by rw [z]; rfl⟩⟩
      | false => exact ⟨_, rfl, false, rfl, e2, by rw [z]; rfl⟩
  · rintro σ' H' ⟨e, rfl⟩
    have m2' := m.mono e
    obtain ⟨dx, hp⟩ := m2'.ob
    refine ⟨_, rfl, p, dx, _, rfl, hp, (by kernel_rfl), _, rfl, p, d, _, H0, s, rfl, m2', (moreBy_ok ⟨⟨b1, b2⟩, b3, b4⟩).1, fun H'' m3 => ?_⟩
    exact ⟨_, rfl, k _ m3⟩
theorem ok_Measure_of_two (T : Txt w K mg) : FR P w K mg base 4 (a_Measure_of_two K) (sp_Measure_of_two K NS) := by
  obtain ⟨fd, F⟩ := T.d_Measure_of_two
  refine mkR F sc_Measure_of_two (fun _ _ _ _ _ _ us hl => match us, hl with | [_, _, _], _ => rfl) (fun vs H Q h => by obtain ⟨p, d, l, a, b, dd, m1, m2, H0, s, rfl, m, ⟨hl, h1, h2, o1, o2⟩, k⟩ := h; rfl) fun cdv A outer s H vs Q E hr h => ?_
  obtain ⟨p, d, l, a, b, dd, m1, m2, H0, s, rfl, m, ⟨hl, h1, h2, o1, o2⟩, k⟩ := h
  refine ⟨_, (pss_cons (ps_asg (pe_tup (pa_cons (pe_ix (kix_tup (K := K) rfl) (pe_ix (kix_list (K := K) rfl) (pv 2) pe_int (fun _ _ => rfl)) pe_int (fun _ _ => rfl)) (pa_cons (pe_ix (kix_tup (K := K) rfl) (pe_ix (kix_list (K := K) rfl) (pv 2) pe_int (fun _ _ => rfl)) pe_int (fun _ _ => rfl)) (pa_cons (pe_ix (kix_tup (K := K) rfl) (pe_ix (kix_list (K := K) rfl) (pv 2) pe_int (fun _ _ => rfl)) pe_int (fun _ _ => rfl)) (pa_cons (pe_ix (kix_tup (K := K) rfl) (pe_ix (kix_list (K := K) rfl) (pv 2) pe_int (fun _ _ => rfl)) pe_int (fun _ _ => rfl)) pa_nil))))) (kpg_tup (K := K) (n := 4) rfl (by rfl) (pgs_cons (pg_name (i := 3) sc_Measure_of_two.nd rfl (Or.inl rfl)) (pgs_cons (pg_name (i := 4) sc_Measure_of_two.nd rfl (Or.inl rfl)) (pgs_cons (pg_name (i := 5) sc_Measure_of_two.nd rfl (Or.inl rfl)) (pgs_cons (pg_name (i := 6) sc_Measure_of_two.nd rfl (Or.inl rfl)) pgs_nil))))))
  (pss_cons (ps_if (pt_cmpR (kop_in (K := K) rfl) (pv 1) (pe_tup (pa_cons pe_str (pa_cons pe_str pa_nil))) (by rfl)) (pss_one (ps_ret (pe_tup (pa_cons (pe_callF (ok_greater (K := K) T) (hr.mono (by omega)) (by rfl) T.g_greater T.k_greater (pa_cons (pv 3) (pa_cons (pv 5) pa_nil))) (pa_cons (pe_op op_add (pv 4) (pv 6)) pa_nil))))) pss_nil)
  (pss_cons (ps_if (pt_cmpR op_eq (pv 1) pe_str (nomark _)) (pss_cons (ps_if (PW.pt (pw_and (pt_not (pt_val (pe_ix (kix_tup (K := K) rfl) (pe_ix (kix_list (K := K) rfl) (pv 2) pe_int (fun _ _ => rfl)) pe_int (fun _ _ => rfl)))) (pw_and1 (pt_not (pt_val (pe_ix (kix_tup (K := K) rfl) (pe_ix (kix_list (K := K) rfl) (pv 2) pe_int (fun _ _ => rfl)) pe_int (fun _ _ => rfl))))))) (pss_one (ps_expr (pe_methF (pv 0) T.c_Measure T.m_Measure_times (ok_Measure_times (K := K) (NS := NS) T) (hr.mono (by omega)) (pa_cons (kfld (K := K) rfl (pv 0) rfl) pa_nil)))) pss_nil)
  (pss_one (ps_ret (pe_tup (pa_cons (pe_op op_sub (pe_op op_add (pv 3) (pv 5)) pe_int) (pa_cons (pe_op op_mul (pv 4) (pv 6)) pa_nil)))))) pss_nil)
  (pss_cons (ps_if (pt_cmpR op_eq (pv 1) pe_str (nomark _)) (pss_one (ps_ret (pe_tup (pa_cons (pe_op op_add (pv 3) (pv 5)) (pa_cons (pe_op op_add (pv 4) (pv 6)) pa_nil))))) pss_nil)
  (pss_cons (ps_if (pt_cmpR op_eq (pv 1) pe_str (nomark _)) (pss_cons (ps_set (i := 7) sc_Measure_of_two.nd rfl (Or.inl rfl) (pe_methF (pv 0) T.c_Measure T.m_Measure_more_by (ok_Measure_more_by (K := K) (NS := NS) T) (hr.mono (by omega)) (pa_cons (pe_ix (kix_list (K := K) rfl) (pv 2) pe_int (fun _ _ => rfl)) (pa_cons (pe_ix (kix_list (K := K) rfl) (pv 2) pe_int (fun _ _ => rfl)) pa_nil))))
  (pss_one (ps_ret (pe_ifExp (pt_cmpR op_eq (pv 5) pe_int (nomark _)) (pe_tup (pa_cons (pv 3) (pa_cons (pe_op op_add (pv 4) pe_int) pa_nil))) (pe_tup (pa_cons (pv 3) (pa_cons (pe_op op_add (pe_op op_mul (pv 4) (pv 7)) pe_int) pa_nil))))))) pss_nil)
  (pss_cons (ps_if (pt_cmpR op_eq (pv 1) pe_str (nomark _)) (pss_cons (ps_set (i := 7) sc_Measure_of_two.nd rfl (Or.inl rfl) (pe_methF (pv 0) T.c_Measure T.m_Measure_more_by (ok_Measure_more_by (K := K) (NS := NS) T) (hr.mono (by omega)) (pa_cons (pe_ix (kix_list (K := K) rfl) (pv 2) pe_int (fun _ _ => rfl)) (pa_cons (pe_ix (kix_list (K := K) rfl) (pv 2) pe_int (fun _ _ => rfl)) pa_nil))))
  (pss_one (ps_ret (pe_ifExp (pt_cmpR op_eq (pv 5) pe_int (nomark _)) (pe_tup (pa_cons pe_int (pa_cons (pv 6) pa_nil))) (pe_tup (pa_cons (pv 5) (pa_cons (pe_op op_add (pe_op op_mul (pv 6) (pe_op op_add (pe_op op_mul (pv 4) (pv 7)) pe_int)) (pv 4)) pa_nil))))))) pss_nil)
  (pss_cons (ps_if (pt_cmpR op_eq (pv 1) pe_str (nomark _)) (pss_one (ps_expr (pe_methF (pv 0) T.c_Measure T.m_Measure_times (ok_Measure_times (K := K) (NS := NS) T) (hr.mono (by omega)) (pa_cons (pe_callF (ok_factor_apart (K := K) T) (hr.mono (by omega)) (by rfl) T.g_factor_apart T.k_factor_apart (pa_cons (pe_ix (kix_list (K := K) rfl) (pv 2) pe_int (fun _ _ => rfl)) (pa_cons (pe_ix (kix_list (K := K) rfl) (pv 2) pe_int (fun _ _ => rfl)) pa_nil))) pa_nil)))) pss_nil)
  (pss_one (ps_ret (pe_tup (pa_cons (pe_callF (ok_greater (K := K) T) (hr.mono (by omega)) (by rfl) T.g_greater T.k_greater (pa_cons (pv 3) (pa_cons (pv 5) pa_nil))) (pa_cons (pe_callF (ok_greater (K := K) T) (hr.mono (by omega)) (by rfl) T.g_greater T.k_greater (pa_cons (pv 4) (pa_cons (pv 6) pa_nil))) pa_nil)))))))))))), ?_⟩
  obtain ⟨n, s', st, sr⟩ := m1
  obtain ⟨m', t, tt, tr⟩ := m2
  have o1' := o1
  have o2' := o2
  obtain ⟨⟨a1, a2⟩, a3, a4⟩ := o1'
  obtain ⟨⟨b1, b2⟩, b3, b4⟩ := o2'
  dsimp only at a1 a2 a3 a4 b1 b2 b3 b4
  have hl' : SqL K H l [V.ref a, V.ref b] := SqL.of hl
  refine ⟨_, rfl, _, _, _, _, rfl, rfl, hl', rfl, _, _, _, _, rfl, rfl, h1, rfl, _, rfl, _, _, _, _, rfl, rfl, hl', rfl, _, _, _, _, rfl, rfl, h1, rfl, _, rfl, _, _, _, _, rfl, rfl, hl', rfl, _, _, _, _, rfl, rfl, h2, rfl,
    _, rfl, _, _, _, _, rfl, rfl, hl', rfl, _, _, _, _, rfl, rfl, h2, rfl, (show 4 ≤ sizeLine by decide), fun u hu => ?_⟩
  refine ⟨u, _, rfl, SqT.of upd_same, rfl, _, _, rfl, _, _, rfl, _, _, rfl, _, _, rfl, rfl, ?_⟩
  have e1 := Ex.new (o := .tup [.int n, .int s', .int m', .int t]) hu
  have ret : ∀ H' x y, Ex H H' → ((x, y), none) = ofTwo dd (n, s', st, sr) (m', t, tt, tr) s.per → ∀ q, H' q = none → Q (.ref q) (upd H' q (.tup [.int x, .int y])) := fun H' x y e z q hq => by
    rw [← z] at k
    exact k q _ (m.mono (e.trans (Ex.new hq))) upd_same
  have ret2 : ∀ H' x y f, MeasAt K NS H0 H' p d (s.times f) → ((x, y), some f) = ofTwo dd (n, s', st, sr) (m', t, tt, tr) s.per → ∀ q, H' q = none → Q (.ref q) (upd H' q (.tup [.int x, .int y])) := fun H' x y f e z q hq => by
    rw [← z] at k
    exact k q _ (e.mono (Ex.new hq)) upd_same
  refine q_when (inC [V.str "+", V.str "-"] rfl) (fun c H1 x1 => ?_) (fun c H1 x1 => ?_)
  · have c' : dd = "+" ∨ dd = "-" := in2 c
    refine ⟨_, rfl, _, rfl, _, _, rfl, _, rfl, _, rfl, _, _, rfl, rfl, sz2, ret H1 _ _ (e1.trans x1) ?_⟩
    unfold ofTwo; rw [if_pos c']
  have c1 : ¬ (dd = "+" ∨ dd = "-") := ni2 c
  have e2 := e1.trans x1
  refine ⟨_, rfl, rfl, _, rfl, iteS (fun c2 => ?_) (fun c2 => ?_)⟩
  · have z0 : ofTwo dd (n, s', st, sr) (m', t, tt, tr) s.per = ((n + m' - 1, s' * t), if st = false ∧ tt = false then some s.per else none) := by unfold ofTwo; rw [if_neg c1, if_pos c2]
    refine ⟨_, rfl, _, _, _, _, rfl, rfl, ex_l e2 hl', rfl, _, _, _, _, rfl, rfl, ex_t e2 h1, rfl, _, rfl, ?_⟩
    have no : ¬ (st = false ∧ tt = false) → ∀ q, H1 q = none → Q (.ref q) (upd H1 q (.tup [.int (n + m' - 1), .int (s' * t)])) := fun z => ret H1 _ _ e2 (by rw [z0, if_neg z])
    cases st with
    | true => exact ⟨_, rfl, _, rfl, _, _, rfl, rfl, _, _, rfl, rfl, _, rfl, _, rfl, _, _, rfl, rfl, .inl ⟨by show -(2 ^ 64) < s'; omega, by show s' < 2 ^ 64; omega⟩, sz2, no (fun z => nomatch z.1)⟩
    | false =>
      refine ⟨_, rfl, _, _, _, _, rfl, rfl, ex_l e2 hl', rfl, _, _, _, _, rfl, rfl, ex_t e2 h2, rfl, _, rfl, ?_⟩
      cases tt with
      | true => exact ⟨_, rfl, _, rfl, _, _, rfl, rfl, _, _, rfl, rfl, _, rfl, _, rfl, _, _, rfl, rfl, .inl ⟨by show -(2 ^ 64) < s'; omega, by show s' < 2 ^ 64; omega⟩, sz2, no (fun z => nomatch z.2)⟩
      | false =>
        have m2 := m.mono e2
        obtain ⟨dx, hp⟩ := m2.ob
        refine ⟨_, rfl, p, dx, _, rfl, hp, (by kernel_rfl), _, rfl, p, _, dx, _, _, rfl, hp, T.c_Measure, T.n_Measure_period, mfs_per d s, p, d, _, H0, s, rfl, m2, s.per |> fun _ => m.ok.per.1, fun H2 m3 => ?_⟩
        exact ⟨_, rfl, _, rfl, _, _, rfl, rfl, _, _, rfl, rfl, _, rfl, _, rfl, _, _, rfl, rfl, .inl ⟨by show -(2 ^ 64) < s'; omega, by show s' < 2 ^ 64; omega⟩, sz2, ret2 H2 _ _ _ m3 (by rw [z0, if_pos ⟨rfl, rfl⟩])⟩
  refine ⟨_, rfl, rfl, _, rfl, iteS (fun c3 => ?_) (fun c3 => ?_)⟩
  · refine ⟨_, rfl, _, rfl, _, _, rfl, rfl, _, rfl, _, rfl, _, _, rfl, rfl, sz2, ret H1 _ _ e2 ?_⟩
    unfold ofTwo; rw [if_neg c1, if_neg c2, if_pos c3]
  have mo : 1 ≤ moreBy (n, s', st, sr) (m', t, tt, tr) ∧ moreBy (n, s', st, sr) (m', t, tt, tr) ≤ 1000000 := moreBy_ok o2
  have m2 := m.mono e2
  obtain ⟨dx, hp⟩ := m2.ob
  refine ⟨_, rfl, rfl, _, rfl, iteS (fun c4 => ?_) (fun c4 => ?_)⟩
  · have z0 : ofTwo dd (n, s', st, sr) (m', t, tt, tr) s.per = ((n, if m' = 1 then s' + 1 else s' * moreBy (n, s', st, sr) (m', t, tt, tr) + 1), some (moreBy (n, s', st, sr) (m', t, tt, tr))) := by
      unfold ofTwo; rw [if_neg c1, if_neg c2, if_neg c3, if_pos c4]
    refine ⟨_, rfl, p, dx, _, rfl, hp, (by kernel_rfl), _, rfl, _, _, _, _, rfl, rfl, ex_l e2 hl', rfl, _, rfl, _, _, _, _, rfl, rfl, ex_l e2 hl', rfl, p, d, a, b, _, _, H0, s, rfl, m2, ⟨ex_t e2 h1, ex_t e2 h2, o1, o2⟩, fun H2 m3 => ?_⟩
    refine ⟨_, rfl, rfl, _, rfl, iteI (fun c5 => ?_) (fun c5 => ?_)⟩
    · exact ⟨_, rfl, _, rfl, _, _, rfl, rfl, sz2, ret2 H2 _ _ _ m3 (by rw [z0, if_pos c5])⟩
    · exact ⟨_, rfl, _, rfl, _, rfl, _, _, rfl, rfl, .inl ⟨by show -(2 ^ 64) < s'; omega, by show s' < 2 ^ 64; omega⟩, _, _, rfl, rfl, sz2, ret2 H2 _ _ _ m3 (by rw [z0, if_neg c5])⟩
  refine ⟨_, rfl, rfl, _, rfl, iteS (fun c5 => ?_) (fun c5 => ?_)⟩
  · have z0 : ofTwo dd (n, s', st, sr) (m', t, tt, tr) s.per = (if m' = 1 then (1, t) else (m', t * (s' * moreBy (n, s', st, sr) (m', t, tt, tr) + 1) + s'), some (moreBy (n, s', st, sr) (m', t, tt, tr))) := by
      unfold ofTwo; rw [if_neg c1, if_neg c2, if_neg c3, if_neg c4, if_pos c5]
    refine ⟨_, rfl, p, dx, _, rfl, hp, (by kernel_rfl), _, rfl, _, _, _, _, rfl, rfl, ex_l e2 hl', rfl, _, rfl, _, _, _, _, rfl, rfl, ex_l e2 hl', rfl, p, d, a, b, _, _, H0, s, rfl, m2, ⟨ex_t e2 h1, ex_t e2 h2, o1, o2⟩, fun H2 m3 => ?_⟩
    refine ⟨_, rfl, rfl, _, rfl, iteI (fun c6 => ?_) (fun c6 => ?_)⟩
    · exact ⟨_, rfl, sz2, ret2 H2 _ _ _ m3 (by rw [z0, if_pos c6])⟩
    · exact ⟨_, rfl, _, rfl, _, rfl, _, rfl, _, _, rfl, rfl, .inl ⟨by show -(2 ^ 64) < s'; omega, by show s' < 2 ^ 64; omega⟩, _, _, rfl, rfl, _, _, rfl, rfl, .inl ⟨by show -(2 ^ 64) < t; omega, by show t < 2 ^ 64; omega⟩, _, rfl, _, _, rfl, rfl, sz2, ret2 H2 _ _ _ m3 (by rw [z0, if_neg c6])⟩
  have z0 : ofTwo dd (n, s', st, sr) (m', t, tt, tr) s.per = ((gr n m', gr s' t), if dd = "common" then some (fA (n, s', st, sr) (m', t, tt, tr)) else none) := by
    unfold ofTwo; rw [if_neg c1, if_neg c2, if_neg c3, if_neg c4, if_neg c5]
  refine ⟨_, rfl, rfl, _, rfl, iteS (fun c6 => ?_) (fun c6 => ?_)⟩
  · refine ⟨_, rfl, p, dx, _, rfl, hp, (by kernel_rfl), _, rfl, _, _, _, _, rfl, rfl, ex_l e2 hl', rfl, _, rfl, _, _, _, _, rfl, rfl, ex_l e2 hl', rfl, a, b, _, _, rfl, ex_t e2 h1, ex_t e2 h2, o1, o2, fun H2 e3 => ?_⟩
    have m3 := m2.mono e3
    refine ⟨p, d, _, H0, s, rfl, m3, (fA_ok o1 o2).1, fun H3 m4 => ?_⟩
    exact ⟨_, rfl, _, rfl, _, _, rfl, _, rfl, _, rfl, _, _, rfl, sz2, ret2 H3 _ _ _ m4 (by rw [z0, if_pos c6])⟩
  · exact ⟨_, rfl, _, rfl, _, _, rfl, _, rfl, _, rfl, _, _, rfl, sz2, ret H1 _ _ e2 (by rw [z0, if_neg c6])⟩
theorem not_in {d z : Str} {l : List Str} (h : d ∈ l) (hn : decide (z ∈ l) = false := by decide +kernel) : ¬ d = z := fun e => of_decide_eq_false hn (e ▸ h)
theorem deed_figs {g : PutG} (wf : g.wf NS) (c : g.deed = "figures") : ∃ ks, g = .figs ks := by
  cases g with
  | figs ks => exact ⟨ks, rfl⟩
  | num k => exact absurd c (by show ¬ ("number" : Str) = "figures"; decide +kernel)
  | base => exact absurd c (by show ¬ ("base" : Str) = "figures"; decide +kernel)
  | pow x k => exact absurd c (by show ¬ ("**" : Str) = "figures"; decide +kernel)
  | one d x => exact absurd c (not_in wf.1)
  | kone d k x => exact absurd c (not_in wf.1)
  | two d x y => exact absurd c (not_in wf.1)
theorem deed_num {g : PutG} (wf : g.wf NS) (c : g.deed = "number") : ∃ k, g = .num k := by
  cases g with
  | figs ks => exact absurd c (by show ¬ ("figures" : Str) = "number"; decide +kernel)
  | num k => exact ⟨k, rfl⟩
  | base => exact absurd c (by show ¬ ("base" : Str) = "number"; decide +kernel)
  | pow x k => exact absurd c (by show ¬ ("**" : Str) = "number"; decide +kernel)
  | one d x => exact absurd c (not_in wf.1)
  | kone d k x => exact absurd c (not_in wf.1)
  | two d x y => exact absurd c (not_in wf.1)
theorem deed_base {g : PutG} (wf : g.wf NS) (c : g.deed = "base") : g = .base := by
  cases g with
  | figs ks => exact absurd c (by show ¬ ("figures" : Str) = "base"; decide +kernel)
  | num k => exact absurd c (by show ¬ ("number" : Str) = "base"; decide +kernel)
  | base => rfl
  | pow x k => exact absurd c (by show ¬ ("**" : Str) = "base"; decide +kernel)
  | one d x => exact absurd c (not_in wf.1)
  | kone d k x => exact absurd c (not_in wf.1)
  | two d x y => exact absurd c (not_in wf.1)
theorem deed_pow {g : PutG} (wf : g.wf NS) (c : g.deed = "**") : ∃ x k, g = .pow x k := by
  cases g with
  | figs ks => exact absurd c (by show ¬ ("figures" : Str) = "**"; decide +kernel)
  | num k => exact absurd c (by show ¬ ("number" : Str) = "**"; decide +kernel)
  | base => exact absurd c (by show ¬ ("base" : Str) = "**"; decide +kernel)
  | pow x k => exact ⟨x, k, rfl⟩
  | one d x => exact absurd c (not_in wf.1)
  | kone d k x => exact absurd c (not_in wf.1)
  | two d x y => exact absurd c (not_in wf.1)
theorem ok_Measure_measured (T : Txt w K mg) : FR P w K mg base 5 (a_Measure_measured K) (sp_Measure_measured K NS) := by
  obtain ⟨fd, F⟩ := T.d_Measure_measured
  refine mkR F sc_Measure_measured (fun _ _ _ _ _ _ us hl => match us, hl with | [_, _, _], _ => rfl) (fun vs H Q h => by obtain ⟨p, d, a, dx, l, i, u, gv, tl, x, g, ts, H0, s, rfl, m, ⟨ha, hg, wf⟩, ht, hts, k⟩ := h; rfl) fun cdv A outer s H vs Q E hr h => ?_
  obtain ⟨p, d, a, dx, l, i, u, gv, tl, x, g, ts, H0, s, rfl, m, ⟨ha, hg, wf⟩, ht, hts, k⟩ := h
  refine ⟨_, (pss_cons (ps_if (pt_cmpR op_eq (kfld (K := K) rfl (pv 1) rfl) pe_str (nomark _)) (pss_one (ps_ret (pe_tup (pa_cons (pe_callB (kcall_len (K := K) rfl) (by rfl) T.z_len b_len (pa_cons (kfld (K := K) rfl (pv 1) rfl) pa_nil)) (pa_cons (pe_callF (ok_greater (K := K) T) (hr.mono (by omega)) (by rfl) T.g_greater T.k_greater (pa_cons pe_int (pa_cons (pe_callB (kcrT_sum (K := K) rfl rfl) (by rfl) T.z_sum b_sum (pa_cons (kfld (K := K) rfl (pv 1) rfl) pa_nil)) pa_nil))) pa_nil))))) pss_nil)
  (pss_cons (ps_if (pt_cmpR op_eq (kfld (K := K) rfl (pv 1) rfl) pe_str (nomark _)) (pss_one (ps_ret (pe_tup (pa_cons pe_int (pa_cons (pe_callF (ok_greater (K := K) T) (hr.mono (by omega)) (by rfl) T.g_greater T.k_greater (pa_cons pe_int (pa_cons (pe_ix (kix_tup (K := K) rfl) (kfld (K := K) rfl (pv 1) rfl) pe_int (fun _ _ => rfl)) pa_nil))) pa_nil))))) pss_nil)
  (pss_cons (ps_if (pt_cmpR op_eq (kfld (K := K) rfl (pv 1) rfl) pe_str (nomark _)) (pss_one (ps_ret (pe_tup (pa_cons pe_int (pa_cons pe_int pa_nil))))) pss_nil)
  (pss_cons (ps_if (pt_cmpR op_eq (kfld (K := K) rfl (pv 1) rfl) pe_str (nomark _)) (pss_cons (ps_par3 (i := 3) (j := 4) (l := 5) rfl sc_Measure_measured.nd rfl rfl rfl (by decide) (by decide) (by decide) rfl rfl rfl (pa_cons (pe_ix (kix_tup (K := K) rfl) (pe_ix (kix_list (K := K) rfl) (pv 2) pe_int (fun _ _ => rfl)) pe_int (fun _ _ => rfl)) (pa_cons (pe_ix (kix_tup (K := K) rfl) (pe_ix (kix_list (K := K) rfl) (pv 2) pe_int (fun _ _ => rfl)) pe_int (fun _ _ => rfl)) (pa_cons (pe_ix (kix_tup (K := K) rfl) (kfld (K := K) rfl (pv 1) rfl) pe_int (fun _ _ => rfl)) pa_nil))) (by rfl))
  (pss_cons (ps_if (PW.pt (pw_and (pt_not (pt_val (pe_ix (kix_tup (K := K) rfl) (pe_ix (kix_list (K := K) rfl) (pv 2) pe_int (fun _ _ => rfl)) pe_int (fun _ _ => rfl)))) (pw_and1 (pt_cmpR op_gt (pv 5) pe_int (nomark _))))) (pss_one (ps_expr (pe_methF (pv 0) T.c_Measure T.m_Measure_times (ok_Measure_times (K := K) (NS := NS) T) (hr.mono (by omega)) (pa_cons (pe_callF (ok_power (K := K) T) (hr.mono (by omega)) (by rfl) T.g_power_measures T.k_power (pa_cons (kfld (K := K) rfl (pv 0) rfl) (pa_cons (pe_op op_sub (pv 5) pe_int) pa_nil))) pa_nil)))) pss_nil)
  (pss_one (ps_ret (pe_tup (pa_cons (pe_op op_add (pe_op op_mul (pv 5) (pe_op op_sub (pv 3) pe_int)) pe_int) (pa_cons (pe_callF (ok_power (K := K) T) (hr.mono (by omega)) (by rfl) T.g_power_measures T.k_power (pa_cons (pv 4) (pa_cons (pv 5) pa_nil))) pa_nil))))))) pss_nil)
  (pss_one (ps_ret (pe_ifExp (pt_cmpR op_eq (pe_callB (kcall_len (K := K) rfl) (by rfl) T.z_len b_len (pa_cons (pv 2) pa_nil)) pe_int (nomark _)) (pe_methF (pv 0) T.c_Measure T.m_Measure_of_two (ok_Measure_of_two (K := K) (NS := NS) T) (hr.mono (by omega)) (pa_cons (kfld (K := K) rfl (pv 1) rfl) (pa_cons (pv 2) pa_nil))) (pe_callF (ok_of_one (K := K) T) (hr.mono (by omega)) (by rfl) T.g_of_one T.k_of_one (pa_cons (kfld (K := K) rfl (pv 1) rfl) (pa_cons (pe_ix (kix_list (K := K) rfl) (pv 2) pe_int (fun _ _ => rfl)) pa_nil)))))))))), ?_⟩
  have fD := pfs_deed l i u gv x g
  have fG := pfs_given l i u gv x g
  have ret : ∀ H' y z, MeasAt K NS H0 H' p d s → ((y, z), none) = meas g s → ∀ q, H' q = none → Q (.ref q) (upd H' q (.tup [.int y, .int z])) := fun H' y z e zz q hq => by
    rw [← zz] at k
    exact k q _ (e.mono (Ex.new hq)) upd_same
  refine ⟨_, rfl, a, _, dx, _, _, rfl, ha, T.c_Put, T.n_Put_deed, fD, rfl, _, rfl, iteS (fun c => ?_) (fun c => ?_)⟩
  · obtain ⟨ks, rfl⟩ := deed_figs wf c
    exact ⟨_, rfl, a, _, dx, _, _, rfl, ha, T.c_Put, T.n_Put_given, fG, _, _, rfl, .inr hg, _, rfl, a, _, dx, _, _, rfl, ha, T.c_Put, T.n_Put_given, fG, _, ks, rfl, hg, _, _, rfl, sz2, ret H _ _ m (by rw [show (PutG.given (.figs ks)).length = ks.length from List.length_map _]; rfl)⟩
  refine ⟨_, rfl, a, _, dx, _, _, rfl, ha, T.c_Put, T.n_Put_deed, fD, rfl, _, rfl, iteS (fun c2 => ?_) (fun c2 => ?_)⟩
  · obtain ⟨k', rfl⟩ := deed_num wf c2
    exact ⟨_, rfl, a, _, dx, _, _, rfl, ha, T.c_Put, T.n_Put_given, fG, _, _, _, _, rfl, rfl, hg, rfl, _, _, rfl, sz2, ret H _ _ m rfl⟩
  refine ⟨_, rfl, a, _, dx, _, _, rfl, ha, T.c_Put, T.n_Put_deed, fD, rfl, _, rfl, iteS (fun c3 => ?_) (fun c3 => ?_)⟩
  · have e := deed_base wf c3
    subst e
    exact ⟨sz2, ret H _ _ m rfl⟩
  have hl : SqL K H tl (ts.map V.ref) := SqL.of ht
  have ok := m.ok
  refine ⟨_, rfl, a, _, dx, _, _, rfl, ha, T.c_Put, T.n_Put_deed, fD, rfl, _, rfl, iteS (fun c4 => ?_) (fun c4 => ?_)⟩
  · obtain ⟨y, k', rfl⟩ := deed_pow wf c4
    obtain ⟨hy, k0, k1⟩ := wf
    cases hts with
    | cons h1 r =>
      cases r
      have o1 := ok.now y
      rcases hm : s.now y with ⟨n, sz, st, sr⟩
      rw [hm] at h1 o1
      obtain ⟨⟨a1, a2⟩, a3, a4⟩ := o1
      dsimp only at a1 a2 a3 a4
      have z0 : meas (.pow y k') s = ((k' * (n - 1) + 1, pw sz k'), if st = false ∧ 1 < k' then some (pw s.per (k' - 1)) else none) := by simp only [meas, hm]
      refine ⟨_, rfl, _, _, _, _, rfl, rfl, hl, rfl, _, _, _, _, rfl, rfl, h1, rfl, _, rfl, _, _, _, _, rfl, rfl, hl, rfl, _, _, _, _, rfl, rfl, h1, rfl, _, rfl, a, _, dx, _, _, rfl, ha, T.c_Put, T.n_Put_given, fG, _, _, _, _, rfl, rfl, hg, rfl, _, _, _, rfl, ?_⟩
      have no : ¬ (st = false ∧ 1 < k') → ∀ H' , Ex H H' → ∀ q, H' q = none → Q (.ref q) (upd H' q (.tup [.int (k' * (n - 1) + 1), .int (pw sz k')])) := fun z H' e => ret H' _ _ (m.mono e) (by rw [z0, if_neg z])
      have sp0 : (0 : Int) ≤ sz ∧ sz ≤ 1000000 := ⟨by omega, a4⟩
      have bk : -(2 ^ 64) < k' ∧ k' < 2 ^ 64 := ⟨by omega, by omega⟩
      refine ⟨_, rfl, _, _, _, _, rfl, rfl, hl, rfl, _, _, _, _, rfl, rfl, h1, rfl, _, rfl, ?_⟩
      cases st with
      | true => exact ⟨_, rfl, _, rfl, _, _, rfl, rfl, _, _, rfl, rfl, .inl bk, _, _, rfl, rfl, _, rfl, _, rfl, _, _, rfl, sp0, fun H3 e3 => ⟨sz2, no (fun z => nomatch z.1) H3 e3⟩⟩
      | false =>
        refine ⟨_, rfl, _, _, rfl, rfl, _, rfl, iteD (fun c5 => ?_) (fun c5 => ?_)⟩
        · obtain ⟨dy, hp⟩ := m.ob
          refine ⟨_, rfl, p, dy, _, rfl, hp, (by kernel_rfl), _, rfl, p, _, dy, _, _, rfl, hp, T.c_Measure, T.n_Measure_period, mfs_per d s, _, rfl, _, _, rfl, rfl, _, _, rfl, ⟨by have := ok.per; omega, ok.per.2⟩, fun H1 e1 => ?_⟩
          refine ⟨p, d, _, H0, s, rfl, m.mono e1, pw_pos _ _, fun H2 m2 => ?_⟩
          refine ⟨_, rfl, _, rfl, _, _, rfl, rfl, _, _, rfl, rfl, .inl bk, _, _, rfl, rfl, _, rfl, _, rfl, _, _, rfl, sp0, fun H3 e3 => ⟨sz2, fun q hq => ?_⟩⟩
          rw [z0, if_pos ⟨rfl, c5⟩] at k
          exact k q _ ((m2.mono e3).mono (Ex.new hq)) upd_same
        · exact ⟨_, rfl, _, rfl, _, _, rfl, rfl, _, _, rfl, rfl, .inl bk, _, _, rfl, rfl, _, rfl, _, rfl, _, _, rfl, sp0, fun H3 e3 => ⟨sz2, no (fun z => c5 z.2) H3 e3⟩⟩
  · have lenR : ∀ z : Int, SqL K H tl (ts.map V.ref) ∧ ((ts.map V.ref).length : Int) = z → True := fun _ _ => trivial
    have one1 : ∀ (dd y : Str), g.deed = dd → g.names = [y] → meas g s = (ofOne dd (s.now y), none) →
        tIf (tTest (tOp rEq (tCB (rLenS K) (tCons (tVar 2) tNil)) (tC (.int 2)))) (tMethF (C_Measure K) "of_two" (sp_Measure_of_two K NS) (tVar 0) (tCons (tFld K (tVar 1) "deed") (tCons (tVar 2) tNil)))
          (tCallF (sp_of_one K) (tCons (tFld K (tVar 1) "deed") (tCons (tOp (rIxL K) (tVar 2) (tC (.int 0))) tNil))) (L2.start N_Measure_measured [.ref p, .ref a, .ref tl]) H Q := fun dd y e1 e2 e3 => by
      rw [e2] at hts
      rw [e1] at fD
      cases hts with
      | cons h1 r =>
        cases r
        rename_i t
        refine ⟨_, rfl, _, _, rfl, .inl hl, rfl, _, rfl, ?_⟩
        refine iteI (fun c5 => absurd c5 (show ¬ ((1 : Nat) : Int) = 2 by decide)) (fun c5 => ?_)
        refine ⟨_, rfl, a, _, dx, _, _, rfl, ha, T.c_Put, T.n_Put_deed, fD, _, rfl, _, _, _, _, rfl, rfl, hl, rfl, dd, t, s.now y, rfl, h1, ok.now y, fun q H' e4 hq => ?_⟩
        rw [e3] at k
        exact k q H' (m.mono e4) hq
    cases g with
    | figs ks => exact absurd rfl c
    | num k => exact absurd rfl c2
    | base => exact absurd rfl c3
    | pow x k => exact absurd rfl c4
    | one d' y => exact one1 d' y rfl rfl rfl
    | kone d' k y => exact one1 d' y rfl rfl rfl
    | two d' y z =>
      cases hts with
      | cons h1 r =>
        cases r with
        | cons h2 r =>
          cases r
          obtain ⟨dy, hp⟩ := m.ob
          refine ⟨_, rfl, _, _, rfl, .inl hl, rfl, _, rfl, ?_⟩
          refine iteI (fun c5 => ?_) (fun c5 => absurd rfl c5)
          exact ⟨_, rfl, p, dy, _, rfl, hp, (by kernel_rfl), _, rfl, a, _, dx, _, _, rfl, ha, T.c_Put, T.n_Put_deed, fD, _, rfl, p, d, tl, _, _, d', _, _, H0, s, rfl, m, ⟨ht, h1, h2, ok.now y, ok.now z⟩, k⟩
theorem told_list {w : World} {K : PySem.W.Frag} {mg : Str → Option Value} (T : Txt w K mg) {NS : List Str} {H : Hp} {d : Addr} {kvs : List (Key × V)} {f : Str → M4} (n : NowAt K NS H d kvs f) :
    ∀ xs : List Str, ∃ ts : List Addr, xs.map (told K kvs) = ts.map V.ref ∧ Paired (fun t x => SqT K H t (mV (f x))) ts xs
  | [] => ⟨[], rfl, .nil⟩
  | x :: r => by
    obtain ⟨t, e1, h1⟩ := told_at T n x
    obtain ⟨ts, e2, h2⟩ := told_list T n r
    exact ⟨t :: ts, by rw [List.map_cons, e1, e2]; rfl, .cons h1 h2⟩
theorem ok_Measure_note (T : Txt w K mg) : FR P w K mg base 6 (a_Measure_note K) (sp_Measure_note K NS) := by
  obtain ⟨fd, F⟩ := T.d_Measure_note
  refine mkR F sc_Measure_note (fun _ _ _ _ _ _ us hl => match us, hl with | [_, _], _ => rfl) (fun vs H Q h => by obtain ⟨p, d, a, dx, l, i, u, gv, x, g, H0, s, rfl, m, ⟨ha, hg, wf, hx, hns⟩, k⟩ := h; rfl) fun cdv A outer s H vs Q E hr h => ?_
  obtain ⟨p, d, a, dx, l, i, u, gv, x, g, H0, s, rfl, m, ⟨ha, hg, wf, hx, hns⟩, k⟩ := h
  refine ⟨_, (pss_cons (ps_setLc (i := 2) (own := [("arg", 8)]) rfl sc_Measure_note.nd rfl rfl (sw_true rfl rfl rfl (by decide +kernel)) (kpi_tup (K := K) rfl (kfld (K := K) rfl (pv 1) rfl)) (blkOk_by (own := [("arg", 8)]) (N := N_Measure_note) (sc := defScope s_Measure_note) (by decide +kernel)) (fun _ _ _ _ _ => (pg_name (i := 8) sc_Measure_note.nd rfl (Or.inl rfl))) (fun _ _ _ _ _ => (pts_one (pt_val (pe_callB (kcall_isi (K := K) rfl) (by rfl) T.z_isinstance b_isinstance (pa_cons (pv 8) (pa_cons (pe_bltn (v := .ty "str") rfl T.z_str b_str rfl) pa_nil)))))) (fun _ _ _ _ _ => (pv 8)))
  (pss_cons (ps_setLc (i := 3) (own := [("name", 9)]) rfl sc_Measure_note.nd rfl rfl (sw_true rfl rfl rfl (by decide +kernel)) (kpi_list (K := K) rfl (pv 2)) (blkOk_by (own := [("name", 9)]) (N := N_Measure_note) (sc := defScope s_Measure_note) (by decide +kernel)) (fun _ _ _ _ _ => (pg_name (i := 9) sc_Measure_note.nd rfl (Or.inl rfl))) (fun _ _ _ _ _ => pts_nil) (fun _ _ _ _ _ => (pe_methF (pv 0) T.c_Measure T.m_Measure_told_of (ok_Measure_told_of (K := K) T) (hr.mono (by omega)) (pa_cons (pv 9) pa_nil))))
  (pss_cons (ps_set (i := 4) sc_Measure_note.nd rfl (Or.inl rfl) (pe_and (pe_cmpR (kop_notIn (K := K) rfl) (kfld (K := K) rfl (pv 1) rfl) (pe_glob (v := .ref _) rfl T.g_UNSTEADY rfl) (by rfl)) (pe_one (pe_callB (kcr_all (K := K) rfl rfl) (by rfl) T.z_all b_all (pa_cons (pe_lc (own := [("one", 10)]) rfl sc_Measure_note.nd (kpi_list (K := K) rfl (pv 3)) (blkOk_by (own := [("one", 10)]) (N := N_Measure_note) (sc := defScope s_Measure_note) (by decide +kernel)) (fun _ _ _ _ _ => (pg_name (i := 10) sc_Measure_note.nd rfl (Or.inl rfl))) (fun _ _ _ _ _ => pts_nil) (fun _ _ _ _ _ => (pe_ix (kix_tup (K := K) rfl) (pv 10) pe_int (fun _ _ => rfl)))) pa_nil)))))
  (pss_cons (ps_set (i := 5) sc_Measure_note.nd rfl (Or.inl rfl) (pe_and (pe_cmpR (kop_notIn (K := K) rfl) (kfld (K := K) rfl (pv 1) rfl) (pe_glob (v := .ref _) rfl T.g_CROOKED rfl) (by rfl)) (pe_one (pe_callB (kcr_all (K := K) rfl rfl) (by rfl) T.z_all b_all (pa_cons (pe_lc (own := [("one", 10)]) rfl sc_Measure_note.nd (kpi_list (K := K) rfl (pv 3)) (blkOk_by (own := [("one", 10)]) (N := N_Measure_note) (sc := defScope s_Measure_note) (by decide +kernel)) (fun _ _ _ _ _ => (pg_name (i := 10) sc_Measure_note.nd rfl (Or.inl rfl))) (fun _ _ _ _ _ => pts_nil) (fun _ _ _ _ _ => (pe_ix (kix_tup (K := K) rfl) (pv 10) pe_int (fun _ _ => rfl)))) pa_nil)))))
  (pss_cons (ps_asg (pe_methF (pv 0) T.c_Measure T.m_Measure_measured (ok_Measure_measured (K := K) (NS := NS) T) (hr.mono (by omega)) (pa_cons (pv 1) (pa_cons (pv 3) pa_nil))) (kpg_tup (K := K) (n := 2) rfl (by rfl) (pgs_cons (pg_name (i := 6) sc_Measure_note.nd rfl (Or.inl rfl)) (pgs_cons (pg_name (i := 7) sc_Measure_note.nd rfl (Or.inl rfl)) pgs_nil))))
  (pss_cons (ps_par (i := 6) (j := 7) (by rfl) sc_Measure_note.nd rfl rfl (by decide) rfl rfl (pa_cons (pe_callF (ok_capped (K := K) T) (hr.mono (by omega)) (by rfl) T.g_capped T.k_capped (pa_cons (pv 6) pa_nil)) (pa_cons (pe_callF (ok_capped (K := K) T) (hr.mono (by omega)) (by rfl) T.g_capped T.k_capped (pa_cons (pv 7) pa_nil)) pa_nil)) (by rfl))
  (pss_cons (ps_dput (hu_of hr) (kfld (K := K) rfl (pv 0) rfl) (kfld (K := K) rfl (pv 1) rfl) (pe_tup (pa_cons (pv 6) (pa_cons (pv 7) (pa_cons (pv 4) (pa_cons (pv 5) pa_nil))))) rfl)
  (pss_cons (kps_fld (K := K) rfl (pv 0) (pe_callF (ok_greater (K := K) T) (hr.mono (by omega)) (by rfl) T.g_greater T.k_greater (pa_cons (kfld (K := K) rfl (pv 0) rfl) (pa_cons (pv 6) pa_nil))) rfl)
  (pss_one (kps_fld (K := K) rfl (pv 0) (pe_callF (ok_greater (K := K) T) (hr.mono (by omega)) (by rfl) T.g_greater T.k_greater (pa_cons (kfld (K := K) rfl (pv 0) rfl) (pa_cons (pv 7) pa_nil))) rfl)))))))))), ?_⟩
  obtain ⟨dp, hp⟩ := m.ob
  obtain ⟨kvs, n⟩ := m.dc
  have fD := pfs_deed l i u gv x g
  have fG := pfs_given l i u gv x g
  have fN := pfs_name l i u gv x g
  have ha' := m.ex _ _ ha
  -- names
  refine q_asgL (el_lcTF argStr (ev_fld (ev_var rfl) ha' T.c_Put T.n_Put_given fG) (ex_t m.ex hg) (by have := given_few wf; omega) fun v hv => ?_) fun nl H1 hq1 e1 h1 => ?_
  · intro H1 e1 R kR
    rcases given_kind hv with ⟨z, rfl⟩ | ⟨y, rfl⟩
    · exact ⟨rfl, _, rfl, _, _, _, _, false, rfl, .ty "str", .base (.int z), kit_ty (by decide +kernel), false, rfl, kR H1 (Ex.refl H1)⟩
    · exact ⟨rfl, _, rfl, _, _, _, _, true, rfl, .ty "str", .base (.str y), kit_ty (by decide +kernel), true, rfl, _, rfl, kR H1 (Ex.refl H1)⟩
  rw [given_names] at h1
  -- told
  refine q_asgL (el_lcLM (xs := g.names.map V.str) (ys := g.names.map (told K kvs)) (ev_var rfl) (sq_of h1) (by have := names_few g; rw [List.length_map]; omega) (pmap fun y hy => ?_)) fun tl H2 hq2 e2 h2 => ?_
  · intro H3 e3 R kR
    exact ⟨rfl, _, rfl, p, dp, _, rfl, e3 _ _ (e1 _ _ hp), (by kernel_rfl), _, rfl, p, dp, d, y, kvs, s, rfl, e3 _ _ (e1 _ _ hp), e3 _ _ (e1 _ _ n.at_), kR _ (Ex.refl H3)⟩
  have e12 := e1.trans e2
  obtain ⟨ts, et, hts⟩ := told_list T (n.mono e12) g.names
  rw [et] at h2
  have htl : ts.length ≤ 2 := by have := paired_len hts; have := names_few g; omega
  -- is_steady, is_straight
  refine q_asg (v := .bl (isSteady g s)) ?_ fun H3 e3 => ?_
  · refine ev_is (ev_andV (a := !inV (.str g.deed) [.str "//", .str "rest", .str "common"]) (ev_op (ev_fld (ev_var rfl) (e12 _ _ ha') T.c_Put T.n_Put_deed fD) ev_c (rv_niT (He.tupB_ok T.x_UNSTEADY H2) rfl rfl)) fun _ => ev_allN (bs := g.names.map fun x => (s.now x).2.2.1) (el_lcLM (xs := ts.map V.ref) (ev_var rfl) (sq_of h2) (by rw [List.length_map]; omega) ?_)) ?_
    · rw [List.map_map]
      refine pmap2 hts fun t y ht => ?_
      intro H4 e4 R kR
      exact ⟨rfl, _, rfl, _, _, _, _, rfl, rfl, ex_t e4 ht, rfl, kR _ (Ex.refl H4)⟩
    · unfold isSteady
      rw [show inV (.str g.deed) [.str "//", .str "rest", .str "common"] = decide (g.deed ∈ (["//", "rest", "common"] : List Str)) from inV_mem g.deed ["//", "rest", "common"]]
  have e13 := e12.trans e3
  have h3 := e3 _ _ h2
  refine q_asg (v := .bl (isStraight g s)) ?_ fun H4 e4 => ?_
  · refine ev_is (ev_andV (a := !inV (.str g.deed) [.str "turned", .str "least", .str "greatest", .str "first", .str "last"]) (ev_op (ev_fld (ev_var rfl) (e13 _ _ ha') T.c_Put T.n_Put_deed fD) ev_c (rv_niT (He.tupB_ok T.x_CROOKED H3) rfl rfl)) fun _ => ev_allN (bs := g.names.map fun x => (s.now x).2.2.2) (el_lcLM (xs := ts.map V.ref) (ev_var rfl) (sq_of h3) (by rw [List.length_map]; omega) ?_)) ?_
    · rw [List.map_map]
      refine pmap2 hts fun t y ht => ?_
      intro H4 e4 R kR
      exact ⟨rfl, _, rfl, _, _, _, _, rfl, rfl, ex_t (e3.trans e4) ht, rfl, kR _ (Ex.refl H4)⟩
    · unfold isStraight
      rw [show inV (.str g.deed) [.str "turned", .str "least", .str "greatest", .str "first", .str "last"] = decide (g.deed ∈ (["turned", "least", "greatest", "first", "last"] : List Str)) from inV_mem g.deed ["turned", "least", "greatest", "first", "last"]]
  -- n, s = self.measured(row, told)
  have e14 := e13.trans e4
  have m4 := m.mono e14
  refine ⟨_, rfl, p, dp, _, rfl, e14 _ _ hp, (by kernel_rfl), _, rfl, _, rfl, p, d, a, dx, l, i, u, gv, tl, x, g, ts, H0, s, rfl, m4, ⟨e14 _ _ ha', ex_t (m.ex.trans e14) hg, wf⟩, e4 _ _ h3, Paired.mapP hts (fun t y ht => ex_t (e3.trans e4) ht), fun q H5 m5 h5 => ?_⟩
  refine ⟨q, _, rfl, SqT.of h5, rfl, _, _, rfl, _, _, rfl, rfl, ?_⟩
  refine ⟨_, rfl, _, rfl, _, rfl, _, rfl, _, _, rfl, ?_⟩
  -- self.now[row.name] = (n, s, is_steady, is_straight)
  have mp := meas_pos wf m.ok
  obtain ⟨d5, hp5⟩ := m5.ob
  obtain ⟨kv5, n5⟩ := m5.dc
  have ha5 := m5.ex _ _ ha
  refine ⟨_, rfl, _, rfl, _, rfl, _, rfl, (show 4 ≤ sizeLine by decide), fun t ht => ?_⟩
  have e6 := Ex.new (H := H5) (o := .tup (mV (cap (meas g s).1.1, cap (meas g s).1.2, isSteady g s, isStraight g s))) ht
  have n6 := n5.mono e6
  have m6 := m5.mono e6
  refine ⟨_, rfl, p, _, d5, _, _, rfl, e6 _ _ hp5, T.c_Measure, T.n_Measure_now, mfs_now _ _, _, rfl, a, _, dx, _, _, rfl, e6 _ _ ha5, T.c_Put, T.n_Put_name, fN, d, _, rfl, DPut.k (k := Sum.inr x) n6.at_ (small1000 (by have := n6.few; omega)), ?_⟩
  have m7 := m6.putNow (x := x) (q := (cap (meas g s).1.1, cap (meas g s).1.2, isSteady g s, isStraight g s)) n6 hx (SqT.of upd_same) ⟨⟨cap_pos mp.1, cap_le _⟩, cap_pos mp.2, cap_le _⟩
  obtain ⟨d7, hp7⟩ := m7.ob
  -- self.longest, self.widest
  have bl := m.ok.long
  have bw := m.ok.wide
  refine ⟨_, rfl, p, _, d7, _, _, rfl, hp7, T.c_Measure, T.n_Measure_longest, mfs_long _ _, _, rfl, _, _, rfl, ?_⟩
  refine ⟨_, rfl, p, _, d7, _, rfl, hp7, T.c_Measure, T.n_Measure_longest, (by show 4 < 1000; decide), ?_⟩
  rw [mfs_putLong]
  refine ⟨_, rfl, p, _, d7, _, _, rfl, upd_same, T.c_Measure, T.n_Measure_widest, mfs_wide _ _, _, rfl, _, _, rfl, ?_⟩
  refine ⟨_, rfl, p, _, d7, _, rfl, upd_same, T.c_Measure, T.n_Measure_widest, (by show 4 < 1000; decide), ?_⟩
  rw [mfs_putWide]
  have e9 : ({ now := setN (s.timesO (meas g s).2).now x (cap (meas g s).1.1, cap (meas g s).1.2, isSteady g s, isStraight g s), per := (s.timesO (meas g s).2).per, long := gr (s.timesO (meas g s).2).long (cap (meas g s).1.1), wide := gr (s.timesO (meas g s).2).wide (cap (meas g s).1.2) } : MS) = noteM x g s := by
    rw [timesO_now, timesO_long, timesO_wide]
    rfl
  have o7 := m7.ok
  have c1 := cap_le (meas g s).1.1
  have c2 := cap_le (meas g s).1.2
  have ok8 : MS.ok ({ now := setN (s.timesO (meas g s).2).now x (cap (meas g s).1.1, cap (meas g s).1.2, isSteady g s, isStraight g s), per := (s.timesO (meas g s).2).per, long := gr (s.timesO (meas g s).2).long (cap (meas g s).1.1), wide := (s.timesO (meas g s).2).wide } : MS) :=
    ⟨o7.now, o7.per, ⟨Int.le_trans o7.long.1 (gr_l _ _), gr_le o7.long.2 c1⟩, o7.wide⟩
  have ok9 : MS.ok ({ now := setN (s.timesO (meas g s).2).now x (cap (meas g s).1.1, cap (meas g s).1.2, isSteady g s, isStraight g s), per := (s.timesO (meas g s).2).per, long := gr (s.timesO (meas g s).2).long (cap (meas g s).1.1), wide := gr (s.timesO (meas g s).2).wide (cap (meas g s).1.2) } : MS) :=
    ⟨o7.now, o7.per, ok8.long, ⟨Int.le_trans o7.wide.1 (gr_l _ _), gr_le o7.wide.2 c2⟩⟩
  have m8 := (m7.set (s' := ({ now := setN (s.timesO (meas g s).2).now x (cap (meas g s).1.1, cap (meas g s).1.2, isSteady g s, isStraight g s), per := (s.timesO (meas g s).2).per, long := gr (s.timesO (meas g s).2).long (cap (meas g s).1.1), wide := (s.timesO (meas g s).2).wide } : MS)) hp7 rfl ok8).set (s' := ({ now := setN (s.timesO (meas g s).2).now x (cap (meas g s).1.1, cap (meas g s).1.2, isSteady g s, isStraight g s), per := (s.timesO (meas g s).2).per, long := gr (s.timesO (meas g s).2).long (cap (meas g s).1.1), wide := gr (s.timesO (meas g s).2).wide (cap (meas g s).1.2) } : MS)) upd_same rfl ok9
  refine k _ ?_
  rw [← e9]
  exact m8
end
end E97
set_option Elab.async false
set_option linter.all false
set_option maxRecDepth 100000
set_option maxHeartbeats 4000000
/-! E97N: flat rows; more rules (a field as a target, keyword-only defaults). -/
namespace E97
open PySem PySem.Spec PyProof.Rows L2 Evl
/-! ### flat rows -/
theorem paired_append {α β : Type} {R : α → β → Prop} : ∀ {xs : List α} {ys : List β} {zs : List α} {ws : List β}, Paired R xs ys → Paired R zs ws → Paired R (xs ++ zs) (ys ++ ws)
  | _, _, _, _, .nil, h => h
  | _, _, _, _, .cons r t, h => .cons r (paired_append t h)
def headO {R : Type} : RF R → Option Str
  | .put x _ => some x
  | _ => none
def kids {R : Type} : RF R → List R
  | .put _ _ => []
  | .stop => []
  | .times _ rs => rs
  | .ife _ rs os => rs ++ os
def flatO : (d : Nat) → List (Rw d) → List (Option Str)
  | 0, _ => []
  | d + 1, rs => rs.flatMap fun r => headO (r : RF (Rw d)) :: flatO d (kids (r : RF (Rw d)))
theorem flatO_cons {d : Nat} (r : Rw (d + 1)) (rs : List (Rw (d + 1))) : flatO (d + 1) (r :: rs) = (headO (R := Rw d) r :: flatO d (kids (R := Rw d) r)) ++ flatO (d + 1) rs :=
  List.flatMap_cons (f := fun r : RF (Rw d) => headO r :: flatO d (kids r))
theorem flatO_append : ∀ {d : Nat} (rs os : List (Rw d)), flatO d (rs ++ os) = flatO d rs ++ flatO d os
  | 0, _, _ => rfl
  | _ + 1, rs, os => List.flatMap_append
def putsOf {d : Nat} (r : RF (Rw d)) : List Str := match r with
  | .put x _ => [x]
  | .stop => []
  | .times _ rs => puts d rs
  | .ife _ rs os => puts d rs ++ puts d os
theorem puts_cons {d : Nat} (r : Rw (d + 1)) (rs : List (Rw (d + 1))) : puts (d + 1) (r :: rs) = putsOf (d := d) r ++ puts (d + 1) rs :=
  List.flatMap_cons (f := fun r : RF (Rw d) => putsOf r)
theorem flatO_nil : ∀ d : Nat, flatO d [] = []
  | 0 => rfl
  | _ + 1 => rfl
theorem puts_flat : ∀ {d : Nat} (rs : List (Rw d)), puts d rs = (flatO d rs).filterMap id
  | 0, _ => rfl
  | d + 1, [] => rfl
  | d + 1, r :: rs => by
    rw [puts_cons, flatO_cons, List.filterMap_append, ← puts_flat rs]
    congr 1
    cases r with
    | put x g =>
      show [x] = List.filterMap id (some x :: flatO d [])
      rw [flatO_nil]
      rfl
    | stop =>
      show [] = List.filterMap id (none :: flatO d [])
      rw [flatO_nil]
      rfl
    | times n ks =>
      show puts d ks = List.filterMap id (none :: flatO d ks)
      rw [puts_flat ks]
      rfl
    | ife t ks os =>
      show puts d ks ++ puts d os = List.filterMap id (none :: flatO d (ks ++ os))
      rw [puts_flat ks, puts_flat os, flatO_append, List.filterMap_cons]
      show _ = List.filterMap id (flatO d ks ++ flatO d os)
      rw [List.filterMap_append]
def FB : Nat → Nat
  | 0 => 0
  | d + 1 => 1 + 24 * FB d
theorem kids_wf {NS : List Str} {d : Nat} {r : RF (Rw d)} (h : Rw.wf NS (d + 1) r) : (kids r).length ≤ 24 ∧ ∀ k ∈ kids r, Rw.wf NS d k := by
  cases r with
  | put x g => exact ⟨(show 0 ≤ 24 by decide), fun k hk => by cases hk⟩
  | stop => exact ⟨(show 0 ≤ 24 by decide), fun k hk => by cases hk⟩
  | times n rs =>
    obtain ⟨_, h2, h3⟩ := (show n ≤ 4 ∧ rs.length ≤ 12 ∧ ∀ r ∈ rs, Rw.wf NS d r from h)
    exact ⟨by show rs.length ≤ 24; omega, h3⟩
  | ife t rs os =>
    obtain ⟨_, ⟨h2, h3⟩, h4, h5⟩ := (show t.wf NS 4 ∧ (rs.length ≤ 12 ∧ ∀ r ∈ rs, Rw.wf NS d r) ∧ os.length ≤ 12 ∧ ∀ r ∈ os, Rw.wf NS d r from h)
    refine ⟨by show (rs ++ os).length ≤ 24; rw [List.length_append]; omega, fun k hk => ?_⟩
    rcases List.mem_append.mp (show k ∈ rs ++ os from hk) with hk | hk
    · exact h3 k hk
    · exact h5 k hk
theorem flatO_len {NS : List Str} : ∀ {d : Nat} {rs : List (Rw d)}, (∀ r ∈ rs, Rw.wf NS d r) → (flatO d rs).length ≤ rs.length * FB d
  | 0, rs, _ => Nat.zero_le _
  | d + 1, [], _ => Nat.zero_le _
  | d + 1, r :: rs, h => by
    have ih := flatO_len (rs := rs) fun r hr => h r (List.mem_cons_of_mem _ hr)
    have w := kids_wf (r := r) (h r List.mem_cons_self)
    have ik := flatO_len (rs := kids r) w.2
    have e2 : (kids (r : RF (Rw d))).length * FB d ≤ 24 * FB d := Nat.mul_le_mul_right _ w.1
    rw [flatO_cons, List.length_append, List.length_cons, List.length_cons, Nat.succ_mul]
    have e3 : FB (d + 1) = 1 + 24 * FB d := rfl
    omega
theorem flatO_in {NS : List Str} : ∀ {d : Nat} {rs : List (Rw d)}, (∀ r ∈ rs, Rw.wf NS d r) → ∀ x, some x ∈ flatO d rs → x ∈ NS
  | 0, rs, _, x, hx => by cases hx
  | d + 1, [], _, x, hx => by cases hx
  | d + 1, r :: rs, h, x, hx => by
    rw [flatO_cons] at hx
    have hr := h r List.mem_cons_self
    rcases List.mem_append.mp hx with hx | hx
    · rcases List.mem_cons.mp hx with hx | hx
      · cases r with
        | put y g =>
          cases hx
          exact hr.1
        | _ => cases hx
      · exact flatO_in (kids_wf hr).2 x hx
    · exact flatO_in (fun r hr => h r (List.mem_cons_of_mem _ hr)) x hx
section
variable (K : PySem.W.Frag) (NS : List Str)
/-- a row as flat_rows gives it -/
def FRow (H : Hp) (v : V) (o : Option Str) : Prop := ∃ (a C dx u : Addr) (fs : List (Str × V)) (us : List Str), v = .ref a ∧ H a = some (.ins C dx fs) ∧ (fs.lookup ("used" : Str) = some (.ref u) ∧ SqT K H u (us.map V.str) ∧ us.length ≤ 8 ∧ ∀ x ∈ us, x ∈ NS) ∧
  match o with
  | some x => C = C_Put K ∧ fs.lookup ("name" : Str) = some (.str x)
  | none => C = C_Stop K ∨ C = C_If K ∨ C = C_Times K
end
section
variable {K : PySem.W.Frag} {NS : List Str} {H : Hp}
theorem FRow.mono {H' : Hp} (e : Ex H H') {v : V} {o : Option Str} (h : FRow K NS H v o) : FRow K NS H' v o := by
  obtain ⟨a, C, dx, u, fs, us, h1, h2, ⟨h3, h4, h5⟩, h6⟩ := h
  exact ⟨a, C, dx, u, fs, us, h1, e _ _ h2, ⟨h3, ex_t e h4, h5⟩, h6⟩
/-- a row: what each class has -/
theorem RowAt.row {d : Nat} {v : V} {r : RF (Rw d)} (h : RowAt K NS (d + 1) H v r) : ∃ (a C dx l i : Addr) (fs : List (Str × V)) (ws : List V), v = .ref a ∧ H a = some (.ins C dx fs) ∧ (C = C_Put K ∨ C = C_Stop K ∨ C = C_If K ∨ C = C_Times K) ∧
    (fs.lookup ("inner" : Str) = some (.ref i) ∧ SqT K H i ws ∧ RowsAt K NS d H ws (kids r)) ∧ (fs.lookup ("lines" : Str) = some (.ref l) ∧ ∃ ls, SqT K H l ls ∧ ls.length ≤ LB (d + 1)) ∧ FRow K NS H v (headO r) := by
  cases r with
  | put x g =>
    obtain ⟨a, dx, l, i, u, gv, h1, h2, ⟨⟨ls, p1, p1'⟩, p2, us, p3, p4⟩, h4⟩ := h
    exact ⟨a, _, dx, l, i, _, [], h1, h2, .inl rfl, ⟨by kernel_rfl, p2, .nil⟩, ⟨by kernel_rfl, ls, p1, p1'⟩, a, _, dx, u, _, us, h1, h2, ⟨by kernel_rfl, p3, p4⟩, rfl, by kernel_rfl⟩
  | stop =>
    obtain ⟨a, dx, l, i, u, h1, h2, ⟨⟨ls, p1, p1'⟩, p2, us, p3, p4⟩⟩ := h
    exact ⟨a, _, dx, l, i, _, [], h1, h2, .inr (.inl rfl), ⟨by kernel_rfl, p2, .nil⟩, ⟨by kernel_rfl, ls, p1, p1'⟩, a, _, dx, u, _, us, h1, h2, ⟨by kernel_rfl, p3, p4⟩, .inl rfl⟩
  | times n rs =>
    obtain ⟨a, dx, ra, l, i, u, ws, h1, h2, ⟨⟨ls, p1, p1'⟩, p2, us, p3, p4⟩, h4, h5⟩ := h
    exact ⟨a, _, dx, l, i, _, ws, h1, h2, .inr (.inr (.inr rfl)), ⟨by kernel_rfl, p2, h5⟩, ⟨by kernel_rfl, ls, p1, p1'⟩, a, _, dx, u, _, us, h1, h2, ⟨by kernel_rfl, p3, p4⟩, .inr (.inr rfl)⟩
  | ife t rs os =>
    obtain ⟨a, dx, ra, oa, l, i, u, tv, vs, ws, h1, h2, ⟨⟨ls, p1, p1'⟩, p2, us, p3, p4⟩, h4, ⟨h5, h6⟩, h7, h8⟩ := h
    exact ⟨a, _, dx, l, i, _, vs ++ ws, h1, h2, .inr (.inr (.inl rfl)), ⟨by kernel_rfl, p2, paired_append h6 h8⟩, ⟨by kernel_rfl, ls, p1, p1'⟩, a, _, dx, u, _, us, h1, h2, ⟨by kernel_rfl, p3, p4⟩, .inr (.inl rfl)⟩
end
/-! ### an own class's isinstance -/
section
variable {K : PySem.W.Frag} {a C D dx : Addr} {fs : List (Str × V)} {H : Hp} {b : Bool} {Q : VK}
theorem inst_ty (h : instB K C = true) (c : Cls K C) (ha : H a = some (.ins C dx fs)) : TyX K H (.ref a) (.ref C) := by
  unfold instB at h
  obtain ⟨h1, h2⟩ := He.ba h
  obtain ⟨h3, h4⟩ := He.ba h2
  obtain ⟨h5, h6⟩ := He.ba h4
  exact .base (.ins ha c (He.eqO_ok h1) (He.eqO_ok h3) (of_decide_eq_true h5) (of_decide_eq_true h6))
theorem isiOwn (h : instB K C = true) (hk : kitD K C (.ref D) b = true) (c : Cls K C) (ha : H a = some (.ins C dx fs)) (q : Q (.bl b) H) : rIsi K [.ref a, .ref D] H Q :=
  ⟨_, _, _, _, b, rfl, .own D, inst_ty h c ha, of_decide_eq_true hk, q⟩
theorem isiTy {T : String} (h : instB K C = true) (hk : kitD K C (.type T) b = true) (c : Cls K C) (ha : H a = some (.ins C dx fs)) (q : Q (.bl b) H) : rIsi K [.ref a, .ty T] H Q :=
  ⟨_, _, _, _, b, rfl, .ty T, inst_ty h c ha, of_decide_eq_true hk, q⟩
end
/-! ### o.f as a target among others -/
def gFld (K : PySem.W.Frag) (ta : TE) (f : Str) : TG := fun v σ H Q => ta σ H fun x H2 => ∃ a C dx fs, x = .ref a ∧ H2 a = some (.ins C dx fs) ∧ Cls K C ∧ NoAttr K C f ∧ fs.length < 1000 ∧ Q σ (upd H2 a (.ins C dx (putF f v fs)))
section
variable {X : Cx} {o : Expr} {ta : TE} {f : Str} {pos : Pos} {K : PySem.W.Frag}
theorem pg_fld (ho : PE X o ta) : PG X (.Attribute o f pos) (gFld X.K ta f) := by
  refine ⟨fun pins s σ H v u Q I r h => ?_⟩
  rw [arm_assign_Attribute]
  refine wpAny_bind (wpAny_holding (thn (ho.run pins s σ H _ I h) fun ov s1 ⟨x, H1, I1, r1, a, C, dx, fs, ex, ea, c, n, l, q1⟩ => ?_))
  subst ex
  obtain rfl : ov = Value.ref a := r1
  refine wpAny_bind (wpAny_standAt (wpAny_bind (wpAny_holding (setattr_ok I1 ea c n l r fun s2 I2 => ?_))))
  exact wpAny_release ⟨σ, _, I2, q1⟩
theorem kpg_fld (hK : X.K = K) (ho : PE X o ta) : PG X (.Attribute o f pos) (gFld K ta f) := by subst hK; exact pg_fld ho
end
/-! ### a promise that promises nothing; keyword-only defaults -/
section
variable {P : Program} {w : World} {K : PySem.W.Frag} {mg : Str → Option Value} {base : Heap} {j k : Nat} {f : Addr} {sp : SP0}
theorem FR.never (h : ∀ vs H Q, ¬ sp vs H Q) : FR P w K mg base k f sp := fun _ _ _ _ _ _ _ _ _ _ _ hs => (h _ _ _ hs).elim
end
/-! ### comprehensions over a new list; a dict's names as a list -/
section
variable {K : PySem.W.Frag} {tl : TE} {σ : L2.St} {H : Hp} {d : Addr} {kvs : List (Key × V)}
theorem ev_listD (h : Ev tl σ H (.ref d)) (hd : H d = some (.dK kvs)) : EvL (tCB rListD (tCons tl tNil)) σ H (kvs.map fun kv => kV kv.1) := fun H1 e Q q =>
  h H1 e _ fun H2 e2 => ⟨d, kvs, rfl, (e.trans e2) _ _ hd, fun p hp => q p _ (fresh_back e2 hp) (e2.trans (Ex.new hp)) upd_same⟩
end
section
variable {K : PySem.W.Frag} {NS : List Str} {H H' H0 : Hp} {d b p : Addr} {kvs : List (Key × V)} {f : Str → M4} {u o : HO} {s s' : MS} {d' : Addr}
theorem NowAt.wr (n : NowAt K NS H d kvs f) (hb : H b = some u) (n1 : ∀ ys, u ≠ .tup ys) (n2 : ∀ a ys, u ≠ .frz a (.tup ys)) (hne : b ≠ d) : NowAt K NS (upd H b o) d kvs f :=
  ⟨by rw [upd_ne (Ne.symm hne)]; exact n.at_, n.nd, n.ks, fun x v h => let ⟨t, e1, e2⟩ := n.get x v h; ⟨t, e1, sqT_wr hb n1 n2 e2⟩, n.no⟩
theorem MeasAt.keepN (m : MeasAt K NS H0 H p d s) (m' : MeasAt K NS (rm2 H p d) H' p d' s') (n : NowAt K NS H b kvs f) (h1 : b ≠ p) (h2 : b ≠ d) : NowAt K NS H' b kvs f :=
  ⟨m.keep m' n.at_ h1 h2, n.nd, n.ks, fun x v h => let ⟨t, e1, e2⟩ := n.get x v h; ⟨t, e1, m.keepT m' e2⟩, n.no⟩
/-- self.now = another dict that no one knew before -/
theorem MeasAt.swap (m : MeasAt K NS H0 H p d s) {dx : Addr} (hp : H p = some (.ins (C_Measure K) dx (mfs d s))) (n : NowAt K NS H b kvs f) (hb : H0 b = none) (hf : ∀ x, (f x).ok) (ho : o = .ins (C_Measure K) dx (mfs b { s with now := f })) : MeasAt K NS H0 (upd H p o) p b { s with now := f } := by
  subst ho
  exact ⟨m.ex.mut m.fr, m.fr, hb, ⟨dx, upd_same⟩, ⟨kvs, n.other hp⟩, hf, m.ok.per, m.ok.long, m.ok.wide⟩
end
end E97
set_option Elab.async false
set_option linter.all false
set_option maxRecDepth 100000
set_option maxHeartbeats 4000000
/-! E97V: own objects in f'..', in a + b, in len. -/
namespace E97
open PySem PySem.Spec PyProof.Rows L2 Evl
section
variable {X : Cx} {pins : List (Addr × Obj)} {σ : L2.St} {H : Hp} {s : Shared} {k : Nat} {f C D : Addr} {sp : SP0}
theorem call_in1 {E : Value → Shared → Prop} {Q : VK} {us : List Value} {vs : List V} (F : FRX X k f sp) (hr : Room (k + 1) X.A) (I : Inv X pins σ H s) (r : Vals vs us) (h : sp vs H Q) : wpAny (model X.prog X.w) X.A.in1 (call (.ref f) us) (EP X pins σ Q) E s := by
  refine wpAny_call (codeAny_mono (F X.A.in1 X.stack s H us vs Q E0 hr.in1 I.env0.in1 r h) fun r s' hq => ?_)
  cases r with
  | error e => exact hq.elim
  | ok fl =>
    cases fl with
    | ret u => exact I.after hq
    | next => exact False.elim hq
    | brk => exact False.elim hq
    | cont => exact False.elim hq
/-- what the written part says of __str__, __format__ -/
structure FmtO (K : PySem.W.Frag) (C f : Addr) : Prop where
  fm : PySem.W.findIn K (.ref C) "__format__" = some (some (.builtin "object.__format__"))
  mr : PySem.W.mroIn K C (.type "object") = some true
  st : PySem.W.findIn K (.ref C) "__str__" = some (some (.ref f))
  fn : PySem.W.isFn K (.ref f) = true
def tFmtO (K : PySem.W.Frag) (f : Addr) (sp : SP0) (te : TE) : TE := fun σ H Q => te σ H fun x H1 => ∃ a C dx fs, x = .ref a ∧ H1 a = some (.ins C dx fs) ∧ FmtO K C f ∧ sp [.ref a] H1 fun v H2 => ∃ y : Str, v = .str y ∧ Q (.str y) H2
theorem pe_fmtO {e : Expr} {te : TE} {pos : Pos} (he : PE X e te) (F : FRX X k f sp) (hr : Room (k + 2) X.A) : PE X (.FormattedValue e (-1) none pos) (tFmtO X.K f sp te) := by
  refine ⟨fun pins s σ H Q I h => ?_⟩
  refine wpAny_FormattedValue_plain (thn (he.run pins s σ H _ I h) fun v s1 ⟨x, H1, I1, rx, a, C, dx, fs, ex, ha, S, q⟩ => ?_)
  subst ex
  obtain rfl : v = Value.ref a := rx
  obtain ⟨mA, O, _⟩ := ins_get I1.hok ha
  obtain ⟨odx, J, _⟩ := O.look
  refine PySem.W.kfo_fieldS (by have := hr.un; show X.A.units + 1 < _; omega) I1.kIn J S.fm S.mr S.st S.fn (wpAny_mono (call_in1 F (hr.mono (by omega)) (I1.tok (s1.toks + 1)) (us := [.ref a]) (vs := [.ref a]) (.cons rfl .nil) q) (fun v s2 z => ?_) fun _ _ z => z)
  obtain ⟨y, H2, I2, ry, z, ey, q2⟩ := z
  subst ey
  obtain ⟨t, rfl⟩ := (show ∃ t, v = Value.str z t from ry)
  exact ⟨.str z, H2, I2, ⟨t, rfl⟩, q2⟩
/-- a + b, both of the class at C -/
def rAddO (K : PySem.W.Frag) (C : Addr) (sp : SP0) : R2 := fun x y H Q => ∃ a b dx fs dx' fs', x = .ref a ∧ y = .ref b ∧ H a = some (.ins C dx fs) ∧ H b = some (.ins C dx' fs') ∧ sp [.ref a, .ref b] H fun v H2 => (∃ r, v = .ref r) ∧ Q v H2
theorem op_addO (F : FRX X k f sp) (hr : Room k X.A) (hf : PySem.W.selfFirst X.K C = true) (hs : PySem.W.findIn X.K (.ref C) "__add__" = some (some (.ref f))) (hfn : PySem.W.isFn X.K (.ref f) = true) : OpR X (binaryOp .Add) (rAddO X.K C sp) := by
  intro pins s σ H x y v u Q I rx ry h
  obtain ⟨a, b, dx, fs, dx', fs', rfl, rfl, ha, hb, q⟩ := h
  cases (show v = Value.ref a from rx)
  cases (show u = Value.ref b from ry)
  obtain ⟨mA, O, _⟩ := ins_get I.hok ha
  obtain ⟨odx, J, _⟩ := O.look
  obtain ⟨mB, O', _⟩ := ins_get I.hok hb
  obtain ⟨odx', J', _⟩ := O'.look
  obtain ⟨m, Fr⟩ := I.fr
  refine PySem.W.binop_K Fr I.ok.mod.kin J J'.type hf hs hfn (thn (wpAny_call (run_fnR (E := E0) F hr pass0 I (us := [.ref a, .ref b]) (vs := [.ref a, .ref b]) (.cons rfl (.cons rfl .nil)) q)) fun v s2 z => ?_)
  obtain ⟨y, H2, I2, ry, ⟨r, er⟩, q2⟩ := z
  subst er
  cases (show v = Value.ref r from ry)
  exact ⟨.ref r, H2, I2, rfl, q2⟩
/-- len(a) -/
def rLenO (K : PySem.W.Frag) (C : Addr) (sp : SP0) : List V → Hp → VK → Prop := fun xs H Q => ∃ a dx fs, xs = [.ref a] ∧ H a = some (.ins C dx fs) ∧ sp [.ref a] H fun v H2 => ∃ n : Int, v = .int n ∧ (0 ≤ n ∧ n < 2 ^ 63) ∧ Q (.int n) H2
theorem call_lenO (F : FRX X k f sp) (hr : Room (k + 1) X.A) (hs : PySem.W.findIn X.K (.ref C) "__len__" = some (some (.ref f))) (hfn : PySem.W.isFn X.K (.ref f) = true) : CallR X (.builtin "len") (rLenO X.K C sp) := by
  intro pins s σ H xs us Q I r h
  obtain ⟨a, dx, fs, rfl, ha, q⟩ := h
  rw [Vals.ref1 r]
  obtain ⟨mA, O, _⟩ := ins_get I.hok ha
  obtain ⟨odx, J, _⟩ := O.look
  obtain ⟨m, Fr⟩ := I.fr
  refine PySem.W.len_K Fr I.ok.mod.kin J hs hfn (wpAny_mono (call_in1 F hr I (us := [.ref a]) (vs := [.ref a]) (.cons rfl .nil) q) (fun v s2 z => ?_) fun _ _ z => z)
  obtain ⟨y, H2, I2, ry, n, ey, hn, q2⟩ := z
  subst ey
  obtain ⟨t, rfl⟩ := (show ∃ t, v = Value.int n t from ry)
  exact ⟨hn, .int n, H2, I2.tok _, ⟨_, rfl⟩, q2⟩
end
end E97
set_option Elab.async false
set_option linter.all false
set_option maxRecDepth 100000
set_option maxHeartbeats 4000000
/-! E97S: defs with defaults. -/
namespace E97
open PySem PySem.Spec PyProof.Rows L2 Evl
section
variable {P : Program} {w : World} {K : PySem.W.Frag} {mg : Str → Option Value} {base : Heap} {k n : Nat} {f : Addr} {sp : SP0} {x qual : Str} {params : Arguments} {body : List Stmt} {scope : Scope} {fd : FuncData} {N ps ks : List Str} {dvs : List V} {kws : List (Str × V)}
theorem mkOk (F : FunD K x qual params body scope dvs kws f fd) (S : FnScope N ps scope) (len : ∀ vs H Q, sp vs H Q → vs.length = ps.length)
    (hbody : ∀ (cdv : Value) (A : Around) (outer : List Env) (s : Shared) (H : Hp) (vs : List V) (Q : VK) (E : XK), Room k (A.deeper (envOfC qual scope s.heap.objs.size f cdv)) → sp vs H Q →
      ∃ t, PSs (cxOf CX0 P w K mg base N qual scope f cdv A outer s H E).nox body t ∧ t { nx := fun _ H' => Q .non H', rt := Q } (start N vs) H) : FnOk P w K mg base CX0 (k + 1) f fd ps (fun vs H Q _ => sp vs H Q) := by
  refine F.ok S (fun vs H Q E h => len vs H Q h) fun cdv A outer s H vs Q E hr h => ?_
  obtain ⟨t, ht, q⟩ := hbody cdv A outer s H vs Q E hr h
  exact ⟨t, ht.nox, q⟩
/-- called by positional values, the last ones by default -/
theorem okFr (G : FnOk P w K mg base CX0 k f fd ps (fun vs H Q _ => sp vs H Q)) (B : ∃ ds, Vals dvs ds ∧ Binds K fd ps ds) : FR P w K mg base k f (fun vs H Q => sp (vs ++ dvs) H Q) := by
  obtain ⟨ds, hd, hb⟩ := B
  have R := G.raw hb hd
  intro A outer s H us vs Q E hr e0 r hs
  exact R A outer s H us vs Q E hr e0 r hs
/-- called with n positional values and the keywords ks -/
def FRK (P : Program) (w : World) (K : PySem.W.Frag) (mg : Str → Option Value) (base : Heap) (k : Nat) (f : Addr) (n : Nat) (ks : List Str) (sp : SP0) : Prop :=
  ∃ (fd : FuncData) (ps : List Str) (g : List Value → List Value → List Value), FnOk P w K mg base CX0 k f fd ps (fun vs H Q _ => sp vs H Q) ∧ KBn K fd ps n ks g (fun vs zs => vs ++ zs)
def tCallK (n m : Nat) (sp : SP0) (t tk : TA) : TE := fun σ H Q => t σ H fun vs H1 => tk σ H1 fun zs H2 => vs.length = n ∧ zs.length = m ∧ sp (vs ++ zs) H2 Q
end
section
variable {X : Cx} {k n : Nat} {f : Addr} {sp : SP0} {x : Str} {p pos : Pos} {e : Expr} {es : List Expr} {kws : List Keyword} {t tk : TA} {ks : List Str}
theorem pe_callK (F : FRK X.prog X.w X.K X.mg X.base k f n ks sp) (hr : Room k X.A) (hg : Gl X x) (hm : X.mg x = some (.ref f)) (hk : PySem.W.keepIn X.K (.ref f) = true) (ha : PA X (e :: es) t) (hkw : PK X kws tk)
    (hall : (backToKw pos (keywordEach kws X.env)).all (·.1.isSome) = true := by rfl) (hks : (backToKw pos (keywordEach kws X.env)).filterMap (·.1) = ks := by rfl)
    (hdb : (x == ("__debug__" : Str)) = false := by decide) (he : starEach (e :: es) X.env = (false, eval e X.env) :: starEach es X.env := by rfl)
    (hpl : ((backTo pos (starEach (e :: es) X.env)).any (·.1) || (backToKw pos (keywordEach kws X.env)).any (·.1.isNone)) = false := by rfl) :
    PE X (.Call (.Name x p) (e :: es) kws pos) (tCallK n ks.length sp t tk) := by
  obtain ⟨fd, ps, g, G, B⟩ := F
  exact pe_callN (E := E0) G hr hg hm hk B pass0 ha hkw hall hks hdb he hpl
end
end E97
set_option Elab.async false
set_option linter.all false
set_option maxRecDepth 100000
set_option maxHeartbeats 4000000
/-! E97U: own classes whose __init__ says super().__init__(..). -/
namespace E97
open PySem PySem.Spec PyProof.Rows L2 Evl ClX NdefX
abbrev P0 : Program := PySem.Challenge.pw_everybase_k97_whole_measures_of_programs
/-- statements of the body B, told where they run (super() looks at the running code) -/
structure PSA (X : Cx) (B st : List Stmt) (t : TS) : Prop where
  run : ∀ (pins : List (Addr × Obj)) (s : Shared) (σ : L2.St) (H : Hp) (D : Ends), Inv X pins σ H s → t D σ H → _root_.PySem.wpAt (model X.prog X.w) X.A (.func B X.env) (execs st X.env) (SP X pins D) X.xe s
section
variable {X : Cx} {B rest : List Stmt} {st : Stmt} {sts : List Stmt} {t u : TS}
theorem psa_of (h : PSs X sts t) : PSA X B sts t := ⟨fun pins s σ H D I hw => _root_.PySem.wpAt_of_wpAny (h.run pins s σ H D I hw)⟩
theorem psa_cons (h1 : PS X st t) (h2 : PSA X B rest u) : PSA X B (st :: rest) (tSeq t u) := by
  refine ⟨fun pins s σ H D I h => ?_⟩
  refine PySem.ks_wpAt_execs_cons (_root_.PySem.wpAt_of_wpAny (thn (h1.run pins s σ H { D with nx := u D } I h) fun f s1 q => ?_))
  cases f with
  | next =>
    obtain ⟨σ', H', I', q⟩ := q
    exact h2.run pins s1 σ' H' D I' q
  | ret v => exact q
  | brk => exact q
  | cont => exact q
end
/-- what the written part says of super() in the __init__ of the class at C; g is next -/
structure SupC (K : PySem.W.Frag) (C cc g : Addr) (cdv : Value) : Prop where
  cell : ∃ cl cld csl, K.lookup cc = some ⟨cl, cld, .cell (some (.ref C)), csl⟩
  code : ∃ cda ccl cdd vs ccs file tf, cdv = .ref cda ∧ K.lookup cda = some ⟨ccl, cdd, .fields vs, ccs⟩ ∧ (vs[2]? : Option Value) = some (.str file tf) ∧ (P0.main.file == file) = true
  cls : ∃ cd, PySem.W.clsIn K C = some cd
  mro : PySem.W.mroIn K C (.ref C) = some true
  sup : PySem.W.ks_superIn K C C "__init__" = some (some (.ref g))
  ty : PySem.W.typeIn K (.ref g) = some (.type "function")
theorem sup_of {K : PySem.W.Frag} {C D cc : Addr} {x qual : Str} {params : Arguments} {body : List Stmt} {scope : Scope} {dV kV doc pm cdv ct oc : Value} {an od : Option Addr} {osl : Array (Option Value)}
    (lk : K.lookup (He.ma K C "__init__") = some ⟨oc, od, .func (PySem.W.fnX x qual params body scope [("__class__", cc)] dV kV doc pm an cdv ct), osl⟩) (h : superB K C D = true) : SupC K C cc (He.ma K D "__init__") cdv := by
  unfold superB at h
  rw [lk] at h
  obtain ⟨h1, h2⟩ := He.ba h
  obtain ⟨h3, h4⟩ := He.ba h2
  obtain ⟨h5, h6⟩ := He.ba h4
  obtain ⟨h7, h8⟩ := He.ba h6
  obtain ⟨h9, h10⟩ := He.ba h1
  refine ⟨?_, ?_, Option.isSome_iff_exists.mp h3, of_decide_eq_true h5, He.eqO_ok h7, of_decide_eq_true h8⟩
  · dsimp only at h9
    split at h9
    · rename_i e
      rw [beq_iff_eq] at h9
      subst h9
      exact ⟨_, _, _, e⟩
    · cases h9
  · dsimp only at h10
    split at h10
    · split at h10
      · rename_i e1
        split at h10
        · rename_i e2
          exact ⟨_, _, _, _, _, _, _, rfl, e1, e2, h10⟩
        · cases h10
      · cases h10
    · cases h10
def tSuper (C : Addr) (sp : SP0) (ta : TA) : TS := fun D σ H => ∃ x dx fs, σ[0]? = some (some (.ref x)) ∧ H x = some (.ins C dx fs) ∧ ta σ H fun vs H1 => sp (.ref x :: vs) H1 fun _ H2 => D.nx σ H2
section
variable {X : Cx} {B rest : List Stmt} {k : Nat} {f C cc g : Addr} {sp : SP0} {p0 p1 apos pos pos2 : Pos} {e : Expr} {es : List Expr} {ta : TA} {u : TS} {fd : FuncData} {oc : Value} {od : Option Addr} {osl : Array (Option Value)} {ar : Arg} {pl : Sem Bool}
theorem psa_super (hP : X.prog = P0) (hlk : X.K.lookup f = some ⟨oc, od, .func fd, osl⟩) (S : SupC X.K C cc g fd.code) (hfu : X.env.func = some f) (hco : X.env.code = fd.code) (hpar : (fd.params.posonlyargs ++ fd.params.args).head? = some ar) (hN : X.N[0]? = some ar.arg)
    (hka : X.env.scope.names.lookup ar.arg = some .local) (hks : X.env.scope.names.lookup ("super" : Str) = some .globalImplicit) (hkc : X.env.scope.names.lookup ("__class__" : Str) = some .free) (hcl : X.env.cells.lookup ("__class__" : Str) = some cc)
    (hms : X.mg "super" = none) (ho : PySem.W.nsIn X.K PySem.cStatics "thirdparty.any" = some none) (F : FRX X k g sp) (hr : Room k X.A) (hf : PySem.W.fnIn X.K g = true) (ha : PA X (e :: es) ta) (hrest : PSA X B rest u)
    (he : starEach (e :: es) X.env = (false, eval e X.env) :: starEach es X.env := by rfl) (hpl : (backTo pos (starEach es X.env)).any (·.1) = false := by rfl)
    (ht : eval (.Call (.Attribute (.Call (.Name "super" p0) [] [] p1) "__init__" apos) (e :: es) [] pos) X.env = (do
      let ov ← attributeBase (.Call (.Name "super" p0) [] [] p1) "__init__" X.env (eval (.Call (.Name "super" p0) [] [] p1) X.env)
      standAt apos.atName
      let (f, first) ← holding [ov] (getMethod ov "__init__" pl)
      callWith pos f first (backTo pos (starEach (e :: es) X.env)) []) := by rfl)
    (hi : interactive X.env = false := by rfl) (hs : swapsWith (.Call (.Attribute (.Call (.Name "super" p0) [] [] p1) "__init__" apos) (e :: es) [] pos) none pos2.line X.env = pure false := by rfl) :
    PSA X B (.Expr (.Call (.Attribute (.Call (.Name "super" p0) [] [] p1) "__init__" apos) (e :: es) [] pos) pos2 :: rest) (tSeq (tSuper C sp ta) u) := by
  refine ⟨fun pins s σ H D I h => ?_⟩
  obtain ⟨x, dx, fs, hσ, hx, h⟩ := h
  refine PySem.ks_wpAt_execs_cons (PySem.ks_wpAt_Expr_any (PySem.ks_wpAt_MethodCall (pl := pl) ?_ ht) hi hs)
  obtain ⟨cl, cld, csl, hcell⟩ := S.cell
  obtain ⟨cda, ccl, cdd, vs, ccs, file, tf, ecd, hcda, hvs, hfile⟩ := S.code
  obtain ⟨cd, hcd⟩ := S.cls
  obtain ⟨mb, b1, b2⟩ := I.mod.blt
  obtain ⟨m, hn, hl⟩ := id I.loc
  obtain ⟨u0, ru, lk⟩ := hl 0 ar.arg (.ref x) hN hσ (.inl hka)
  obtain rfl : u0 = Value.ref x := ru
  have hm : m ar.arg = some (Value.ref x) := by
    rcases lk with lk | ⟨lk, _⟩
    · exact lk.2
    · have lk' : X.env.scope.names.lookup ar.arg = some .cell ∨ X.env.scope.names.lookup ar.arg = some .free := lk
      rw [hka] at lk'
      rcases lk' with z | z <;> cases z
  obtain ⟨mA, O, _⟩ := ins_get I.hok hx
  obtain ⟨odx, J, _⟩ := O.look
  obtain ⟨hh, gg, d, t, os⟩ := s
  obtain ⟨oD, hD1, hD2⟩ : ∃ oD, hh.get? C = some oD ∧ oD.data = .cls cd := by
    unfold PySem.W.clsIn at hcd
    split at hcd
    · rename_i c d' cd' sl' ho'
      cases hcd
      exact ⟨_, I.kIn _ _ ho', rfl⟩
    · cases hcd
  refine PySem.ks_wpAt_super_base (env := X.env) hks hkc (by decide) hfu (I.kIn _ _ hlk) rfl hpar (hco.trans ecd) (I.kIn _ _ hcda) rfl hvs (by rw [hP]; exact hfile) (by rw [hP]; decide +kernel) ?_
  refine PySem.W.ks_loadName_global I.ok.kind hks (Calls.loadGlobal_builtin (by rw [I.ok.glob]; exact I.mod.glob.keeps I.bk) hms (by rw [I.ok.blt]; exact b1.keeps I.bk) ((b2 _ (by decide)).trans (show bootBuiltins "super" = some (.type "super") by decide +kernel)) ⟨rfl, ?_⟩)
  refine PySem.wpAny_loadName_free I.ok.kind hkc hcl ⟨_, I.kIn _ _ hcell, rfl⟩ ?_
  refine wpAny_loadName_local I.ok.kind hka hn hm ?_
  refine PySem.ks_wpAny_isType_cls hD1 hD2 ⟨rfl, ?_⟩
  refine PySem.ks_wpAny_call_super hD1 hD2 J.at_ J.cls (fun c e => ?_) (PySem.W.looks_mroIn I.kIn S.mro) (fun h' e1 k1 => ?_)
  · have := J.no
    unfold PySem.W.notCls at this
    rw [e] at this
    exact Bool.noConfusion this
  have I1 : Inv X pins σ H { heap := h', gens := gg, drawn := d, toks := t, os := os } := I.kept (t' := t) k1
  have hsup := S.sup
  unfold PySem.W.ks_superIn at hsup
  rw [hcd] at hsup
  obtain ⟨of, hof, hofc⟩ : ∃ of, h'.get? g = some of ∧ of.cls = .type "function" := by
    have ht' : (X.K.lookup g).map (·.cls) = some (.type "function") := S.ty
    cases z : X.K.lookup g with
    | none => rw [z] at ht'; cases ht'
    | some of => rw [z] at ht'; exact ⟨of, I1.kIn _ _ z, Option.some.inj ht'⟩
  refine PySem.ks_wpAny_getMethod_super e1 (PySem.W.looks_opaque I1.kIn ho) (l₀ := cd.mro) (fun A Q E s k q => wpAny_bind ((PySem.W.looks_clsIn I1.kIn hcd) A _ E s k (wpAny_pure q))) rfl I1.kIn hsup hof hofc (PySem.W.ks_ne I.kIn J hcd) (by decide) ?_
  have I2 := met_new (g := g) (C := x) I1
  refine callwith_cm I2 (base_none I1 (Nat.le_refl _)) hf (thn (ha.run pos _ _ σ H _ I2 h) fun us s3 ⟨vs, H1, I3, r, q⟩ => ⟨⟨pin_at I3, I3.kIn⟩, ?_⟩) he hpl
  refine thn (run_cm (E := E0) F hr pass0 I3 r q) fun v s4 ⟨y, H4, I4, ry, q4⟩ => ?_
  exact hrest.run pins s4 σ H4 D I4 q4
end
/-! ### the rule -/
section
variable {P : Program} {w : World} {K : PySem.W.Frag} {mg : Str → Option Value} {base : Heap} {k : Nat} {f cc C : Addr} {sp : SP0} {x qual : Str} {params : Arguments} {body : List Stmt} {scope : Scope} {dV kV doc pm ct oc : Value} {an od : Option Addr} {osl : Array (Option Value)} {N ps : List Str} {cda : Addr}
theorem super_body {A : Around} {outer : List Env} {s : Shared} {H : Hp} {us : List Value} {vs : List V} {Q : VK} {E : XK} {h₁ : Heap} {tk : Nat} {t : TS} (hcell : ∃ cl cld csl, K.lookup cc = some ⟨cl, cld, .cell (some (.ref C)), csl⟩) (S : NScope N ps ["__class__"] scope)
    (hd : A.handled = none) (e0 : Env0 P w K mg base A outer s H) (hl : vs.length = ps.length) (r : Vals vs us) (hns : h₁.Ns s.heap.objs.size fun y => (ps.zip us).reverse.lookup y) (kp : ∀ b o, s.heap.get? b = some o → h₁.get? b = some o)
    (ht : PSA (ncx CX0 P w K mg base N ⟨x, qual, params, body, scope, [("__class__", cc)], cda⟩ f A outer s H E) body body t) (hq : t { nx := fun _ H' => Q .non H', rt := Q } (startF N vs [none]) H) :
    _root_.PySem.wpAt (model P w) (A.deeper (envF ⟨x, qual, params, body, scope, [("__class__", cc)], cda⟩ f s.heap.objs.size)) (.func body (envF ⟨x, qual, params, body, scope, [("__class__", cc)], cda⟩ f s.heap.objs.size)) (execs body (envF ⟨x, qual, params, body, scope, [("__class__", cc)], cda⟩ f s.heap.objs.size))
      (fun fl s' => CE outer P w H s Q (match fl with | .ret v => v | _ => .none) s') (fun e s' => wpAny (model P w) (A.deeper (envF ⟨x, qual, params, body, scope, [("__class__", cc)], cda⟩ f s.heap.objs.size)) (leaving (envF ⟨x, qual, params, body, scope, [("__class__", cc)], cda⟩ f s.heap.objs.size) e) (fun _ _ => False) (fun _ _ => False) s') { s with heap := h₁, toks := tk } := by
  obtain ⟨cl, cld, csl, hc⟩ := hcell
  have CA : CellsAt [("__class__", cc)] ["__class__"] [none] s.heap H := by
    refine ⟨rfl, fun y c e => ?_, fun y z c e1 e2 => ?_, fun i y hy => ?_⟩
    · have e' := PySem.mem_of_lookup e
      rw [List.mem_singleton] at e'
      cases e'
      have hb0 := e0.mod.kin _ _ hc
      exact ⟨(e0.bs _ _ hb0).2, _, _, (e0.bs _ _ hb0).1, rfl⟩
    · have a1 := PySem.mem_of_lookup e1
      have a2 := PySem.mem_of_lookup e2
      rw [List.mem_singleton] at a1 a2
      cases a1
      cases a2
      rfl
    · have hi : i = 0 := by
        have := (List.getElem?_eq_some_iff.mp hy).1
        simp at this
        exact this
      subst hi
      cases hy
      exact ⟨cc, rfl, fun v hv => by cases hv⟩
  have I : Inv (ncx CX0 P w K mg base N ⟨x, qual, params, body, scope, [("__class__", cc)], cda⟩ f A outer s H E) [] (startF N vs [none]) H { s with heap := h₁, toks := tk } :=
    inv_startN (F := ⟨x, qual, params, body, scope, [("__class__", cc)], cda⟩) S hd e0 hl r CA hns kp
  refine PySem.ks_wpAt_mono (ht.run [] _ (startF N vs [none]) H _ I hq) (fun fl s' hs => ?_) fun e s' hs => hs
  have fin : ∀ {σ' : L2.St} {H' : Hp} {v : V} {u : Value}, Inv (ncx CX0 P w K mg base N ⟨x, qual, params, body, scope, [("__class__", cc)], cda⟩ f A outer s H E) [] σ' H' s' → RelV v u → Q v H' → CE outer P w H s Q u s' :=
    fun {σ' H' v u} J rv q => ⟨v, H', J.os, J.bare, J.base, J.hok, rv, q⟩
  cases fl with
  | ret u =>
    obtain ⟨v, σ', H', J, rv, q⟩ := hs
    exact fin J rv q
  | next =>
    obtain ⟨σ', H', J, q⟩ := hs
    exact fin (v := V.non) (u := Value.none) J rfl q
  | brk =>
    obtain ⟨_, _, _, q⟩ := hs
    exact False.elim q
  | cont =>
    obtain ⟨_, _, _, q⟩ := hs
    exact False.elim q
theorem super_fn (lk : K.lookup f = some ⟨oc, od, .func (PySem.W.fnX x qual params body scope [("__class__", cc)] dV kV doc pm an (.ref cda) ct), osl⟩) (hcd : PySem.W.codeIn K (.ref cda) qual = true) (hcell : ∃ cl cld csl, K.lookup cc = some ⟨cl, cld, .cell (some (.ref C)), csl⟩)
    (S : NScope N ps ["__class__"] scope) (len : ∀ vs H Q, sp vs H Q → vs.length = ps.length)
    (hbody : ∀ (A : Around) (outer : List Env) (s : Shared) (H : Hp) (vs : List V) (Q : VK) (E : XK), Room k (A.deeper (envF ⟨x, qual, params, body, scope, [("__class__", cc)], cda⟩ f s.heap.objs.size)) → sp vs H Q →
      ∃ t, PSA (ncx CX0 P w K mg base N ⟨x, qual, params, body, scope, [("__class__", cc)], cda⟩ f A outer s H E) body body t ∧ t { nx := fun _ H' => Q .non H', rt := Q } (startF N vs [none]) H) :
    FnOk P w K mg base CX0 (k + 1) f (PySem.W.fnX x qual params body scope [("__class__", cc)] dV kV doc pm an (.ref cda) ct) ps (fun vs H Q _ => sp vs H Q) := by
  refine ⟨fun vs H Q E h => len vs H Q h, fun A outer s H args us vs Q E hr e0 hb r hsp => ?_⟩
  have hl := len _ _ _ hsp
  have KX : K.In s.heap := e0.mod.kin.keeps fun b o e => (e0.bs b o e).1
  have lim : s.heap.NoLimit := e0.mod.nolimit.keeps fun b o e => (e0.bs b o e).1
  refine PySem.ks_codeAny_call_defAt (fd := PySem.W.fnX x qual params body scope [("__class__", cc)] dV kV doc pm an (.ref cda) ct) (body := body) (binds := ps.zip us) hr.depth (KX _ _ lk) rfl lim (PySem.W.codeRec_of KX hcd) rfl hb S.nocell (fun ⟨n, v⟩ hy => S.par n (List.of_mem_zip hy).1) (fun h₁ hns kp => ?_) S.co S.gen S.kind
  obtain ⟨t, ht, hq⟩ := hbody A outer s H vs Q E (hr.deeper _) hsp
  exact PySem.ks_wpAt_mono (super_body (tk := s.toks + (ps.zip us).length) hcell S hr.hd e0 hl r hns kp ht hq) (fun _ _ z => z) fun e s' z => wpAny_mono z (fun _ _ q => q.elim) fun _ _ q => q.elim
/-- def __init__(self, .., *pv) -/
theorem super_star {pv : Str} (lk : K.lookup f = some ⟨oc, od, .func (PySem.W.fnX x qual params body scope [("__class__", cc)] dV kV doc pm an (.ref cda) ct), osl⟩) (hcd : PySem.W.codeIn K (.ref cda) qual = true) (hcell : ∃ cl cld csl, K.lookup cc = some ⟨cl, cld, .cell (some (.ref C)), csl⟩)
    (S : NScope N (ps ++ [pv]) ["__class__"] scope)
    (hb : ∀ us rest : List Value, us.length = ps.length → bindArgs (PySem.W.fnX x qual params body scope [("__class__", cc)] dV kV doc pm an (.ref cda) ct) ⟨us ++ rest, []⟩ = (newTuple rest >>= fun t => pure (ps.zip us ++ [(pv, t)])))
    (len : ∀ vs H Q, sp vs H Q → vs.length = ps.length + 1)
    (hbody : ∀ (A : Around) (outer : List Env) (s : Shared) (H : Hp) (vs : List V) (Q : VK) (E : XK), Room k (A.deeper (envF ⟨x, qual, params, body, scope, [("__class__", cc)], cda⟩ f s.heap.objs.size)) → sp vs H Q →
      ∃ t, PSA (ncx CX0 P w K mg base N ⟨x, qual, params, body, scope, [("__class__", cc)], cda⟩ f A outer s H E) body body t ∧ t { nx := fun _ H' => Q .non H', rt := Q } (startF N vs [none]) H) :
    FR P w K mg base (k + 1) f (fun vs H Q => ∃ ws rest, vs = ws ++ rest ∧ ws.length = ps.length ∧ rest.length ≤ sizeLine ∧ ∀ p, H p = none → sp (ws ++ [V.ref p]) (upd H p (.tup rest)) Q) := by
  intro A outer s H us vs Q E hr e0 r hsp
  obtain ⟨ws, rest, ev, hl, hz, hq⟩ := hsp
  subst ev
  obtain ⟨u1, u2, eu, r1, r2⟩ := StX.vals_split r
  subst eu
  have hn : H s.heap.objs.size = none := e0.hok.fresh (Nat.le_refl _)
  have hl1 : u1.length = ps.length := by rw [← r1.length]; exact hl
  have hl2 : u2.length ≤ sizeLine := by rw [← r2.length]; exact hz
  have KX : K.In s.heap := e0.mod.kin.keeps fun b o e => (e0.bs b o e).1
  refine codeAny_call_function hr.depth (KX _ _ lk) rfl S.co S.gen rfl (PySem.W.codeRec_of KX hcd) ?_
  rw [hb u1 u2 hl1]
  refine wpAny_bind (wpAny_newTuple (wpAny_pure ?_) hl2)
  have new : ObjOk P w (upd H s.heap.objs.size (.tup rest)) (s.heap.push ({ cls := .type "tuple", data := .seq u2.toArray } : Obj)) s.heap.objs.size (.tup rest) := ⟨hz, u2, r2, ⟨_, Heap.get?_push_size _ rfl, rfl, _, rfl⟩⟩
  have un := StX.un_laid (fs := frs outer) (s := s) (o := ({ cls := .type "tuple", data := .seq u2.toArray } : Obj)) (u := .tup rest) hn
  have e2 := StX.env0_laid e0 new
  have ez : ps.zip u1 ++ [(pv, Value.ref s.heap.objs.size)] = (ps ++ [pv]).zip (u1 ++ [Value.ref s.heap.objs.size]) := by
    rw [List.zip_append hl1.symm]
    rfl
  rw [ez]
  have hsp2 := hq _ hn
  obtain ⟨t, ht, hq2⟩ := hbody A outer { s with heap := s.heap.push ({ cls := .type "tuple", data := .seq u2.toArray } : Obj) } _ _ Q E (hr.deeper _) hsp2
  have lim : (s.heap.push ({ cls := .type "tuple", data := .seq u2.toArray } : Obj)).NoLimit := e0.mod.nolimit.keeps fun b o e => (e2.bs b o e).1
  have loc : ∀ y ∈ (ps ++ [pv]).zip (u1 ++ [Value.ref s.heap.objs.size]), scope.names.lookup y.1 = some .local := fun ⟨n, v⟩ hy => S.par n (List.of_mem_zip hy).1
  refine PySem.wpAny_newFunctionEnv (s := { s with heap := s.heap.push ({ cls := .type "tuple", data := .seq u2.toArray } : Obj) }) S.nocell loc (fun h₀ hns₀ hsb₀ => ⟨lim.fresh _ hsb₀, PySem.ks_codeAny_funcAt ?_⟩) S.kind
  have kp : ∀ b o, (s.heap.push ({ cls := .type "tuple", data := .seq u2.toArray } : Obj)).get? b = some o → h₀.get? b = some o := fun b o e => hsb₀.extBut b o (Nat.ne_of_lt (Heap.lt_size e)) (Heap.get?_push_of_some _ e)
  refine PySem.ks_wpAt_mono (super_body (tk := s.toks + ((ps ++ [pv]).zip (u1 ++ [Value.ref s.heap.objs.size])).length) hcell S hr.hd e2 (by rw [List.length_append, List.length_append, hl] <;> rfl) (r1.append (.cons (show RelV (V.ref s.heap.objs.size) (Value.ref s.heap.objs.size) from rfl) .nil)) hns₀ kp ht hq2) (fun fl s' z => ?_) fun e s' z => wpAny_mono z (fun _ _ q => q.elim) fun _ _ q => q.elim
  obtain ⟨v', H', os', bare', ub, hok', rv', q'⟩ := z
  exact ⟨v', H', os', bare', un.trans ub, hok', rv', q'⟩
end
end E97
set_option Elab.async false
set_option linter.all false
set_option maxRecDepth 100000
set_option maxHeartbeats 4000000
/-! P3: flat_rows, look, go, branch -/
namespace E97
open PySem PySem.Spec PyProof.Rows L2 Evl
def sp_flat_rows (K : PySem.W.Frag) (NS : List Str) (n : Nat) : SP0 := fun vs H Q => ∃ (d : Nat) (ra : Addr) (ws : List V) (rs : List (Rw d)) (H0 : Hp), n = d + 1 ∧ vs = [.ref ra] ∧ (Ex H0 H ∧ SqT K H0 ra ws ∧ RowsAt K NS d H0 ws rs) ∧ (rs.length ≤ 24 ∧ (∀ r ∈ rs, Rw.wf NS d r) ∧ d ≤ 3) ∧
  ∀ zs q H', Paired (FRow K NS H0) zs (flatO d rs) → H q = none → Ex H H' → H' q = some (.lst zs) → Q (.ref q) H'
def sp_Measure_look (K : PySem.W.Frag) (NS : List Str) (n : Nat) : SP0 := fun vs H Q => ∃ (e : Nat) (p dc : Addr) (tv : V) (t : PT) (H0 : Hp) (s : MS), n = e + 1 ∧ vs = [.ref p, tv] ∧ MeasAt K NS H0 H p dc s ∧ (TestAt K NS H0 tv t ∧ t.wf NS e) ∧ ∀ H', MeasAt K NS H0 H' p dc (lookM t s) → Q .non H'
def sp_Measure_go (K : PySem.W.Frag) (NS : List Str) (n : Nat) : SP0 := fun vs H Q => ∃ (d : Nat) (p dc ra : Addr) (ws : List V) (rs : List (Rw d)) (H0 : Hp) (s : MS), n = d + 1 ∧ vs = [.ref p, .ref ra] ∧ MeasAt K NS H0 H p dc s ∧ (SqT K H0 ra ws ∧ RowsAt K NS d H0 ws rs ∧ (∀ r ∈ rs, Rw.wf NS d r) ∧ rs.length ≤ 24 ∧ d ≤ 3 ∧ NS.length ≤ 20) ∧
  ∀ dc' H', MeasAt K NS H0 H' p dc' (goM d rs s) → Q .non H'
def sp_Measure_branch (K : PySem.W.Frag) (NS : List Str) (n : Nat) : SP0 := fun vs H Q => ∃ (d : Nat) (p dc a : Addr) (t : PT) (rs os : List (Rw d)) (H0 : Hp) (s : MS), n = d + 1 ∧ vs = [.ref p, .ref a] ∧ MeasAt K NS H0 H p dc s ∧ (RowAt K NS (d + 1) H0 (.ref a) (RF.ife t rs os : RF (Rw d)) ∧ Rw.wf NS (d + 1) (RF.ife t rs os : RF (Rw d)) ∧ d ≤ 3 ∧ NS.length ≤ 20) ∧
  ∀ dc' H', MeasAt K NS H0 H' p dc' (stepM d (goM d) (.ife t rs os) s) → Q .non H'
section
variable {P : Program} {w : World} {K : PySem.W.Frag} {mg : Str → Option Value} {base : Heap} {NS : List Str}
theorem take_snoc {α : Type} {l : List α} {i : Nat} {x : α} (h : l[i]? = some x) : l.take (i + 1) = l.take i ++ [x] := by
  rw [List.take_add_one, h]
  rfl
theorem times_succ' {α : Type} (f : α → α) : ∀ (j : Nat) (s : α), times f (j + 1) s = f (times f j s)
  | 0, _ => rfl
  | j + 1, s => times_succ' f j (f s)
theorem tyL {H : Hp} {p : Addr} {zs : List V} (h : H p = some (.lst zs)) : tyV K "list" (.ref p) H := .inl ⟨rfl, _, SqL.of h⟩
theorem FB_le {d : Nat} (h : d ≤ 3) : FB d ≤ 601 := by
  have z : d = 0 ∨ d = 1 ∨ d = 2 ∨ d = 3 := by omega
  rcases z with rfl | rfl | rfl | rfl <;> decide
theorem flat_step (T : Txt w K mg) (n : Nat) (GF : FR P w K mg base (n + 10) (a_flat_rows K) (sp_flat_rows K NS n)) : FR P w K mg base (n + 11) (a_flat_rows K) (sp_flat_rows K NS (n + 1)) := by
  obtain ⟨fd, F⟩ := T.d_flat_rows
  refine mkR F sc_flat_rows (fun _ _ _ _ _ _ us hl => match us, hl with | [_], _ => rfl) (fun vs H Q h => by obtain ⟨d, ra, ws, rs, H0, hn, rfl, ⟨e0, hra, hrs⟩, ⟨hl, wf, hd⟩, k⟩ := h; rfl) fun cdv A outer s H vs Q E hr h => ?_
  obtain ⟨d, ra, ws, rs, H0, hn, rfl, ⟨e0, hra, hrs⟩, ⟨hl, wf, hd⟩, k⟩ := h
  refine ⟨_, (pss_cons (ps_set (i := 1) sc_flat_rows.nd rfl (Or.inl rfl) (pe_lst pa_nil))
  (pss_cons (ps_for PassesOwn.never rfl (kpi_tup (K := K) rfl (pv 0)) (pg_name (i := 2) sc_flat_rows.nd rfl (Or.inl rfl)) (pss_cons (ps_expr (kpe_bm (K := K) rfl PySem.F.plainAttrs_list PySem.F.slot_list_append PySem.F.type_list_append mt_append (pv 1) (pa_cons (pv 2) pa_nil)))
  (pss_one (ps_expr (kpe_bm (K := K) rfl PySem.F.plainAttrs_list PySem.F.slot_list_extend PySem.F.type_list_extend (kmt_extend (K := K) rfl) (pv 1) (pa_cons (pe_callF (GF) (hr.mono (by omega)) (by rfl) T.g_flat_rows T.k_flat_rows (pa_cons (kfld (K := K) rfl (pv 2) rfl) pa_nil)) pa_nil))))))
  (pss_one (ps_ret (pv 1))))), ?_⟩
  cases hn
  have lw : ws.length = rs.length := paired_len hrs
  refine ⟨Nat.zero_le _, fun p hp => ?_⟩
  refine ⟨_, rfl, ra, rfl, ⟨_, ex_t (e0.trans (Ex.new hp)) hra⟩, for_tup (fun i σ' H' => Ex H H' ∧ (∃ o, σ' = [some (.ref ra), some (.ref p), o]) ∧ ∃ zs, H' p = some (.lst zs) ∧ Paired (FRow K NS H0) zs (flatO n (rs.take i))) ⟨Ex.new hp, ⟨_, rfl⟩, [], upd_same, by rw [List.take_zero, flatO_nil]; exact .nil⟩ (fun i σ' H' _ h => ex_t (e0.trans h.1) hra) (fun i v σ' H' hi h => ?_) (fun σ' H' h => ?_)⟩
  · obtain ⟨e, ⟨o, rfl⟩, zs, hz, hf⟩ := h
    obtain ⟨r, hr⟩ := get_of_len hi lw.symm
    have hv : RowAt K NS n H0 v r := paired_get hrs hi hr
    have rm : r ∈ rs := List.mem_of_getElem? hr
    have hd' := wf r rm
    cases n with
    | zero => exact nomatch r
    | succ n =>
      obtain ⟨a, C, dx, l, ii, fs, ks, rfl, ha, hC, ⟨fi, hii, hks⟩, _, fr⟩ := hv.row
      have kw := kids_wf hd'
      have lz : zs.length ≤ 24 * 601 := by
        rw [paired_len hf]
        have z1 := flatO_len (rs := rs.take i) fun r hr => wf r (List.mem_of_mem_take hr)
        have z2 := FB_le hd
        have z3 : (rs.take i).length ≤ 24 := by rw [List.length_take]; omega
        exact Nat.le_trans z1 (Nat.mul_le_mul z3 z2)
      have lk : (flatO n (kids (R := Rw n) r)).length ≤ 24 * 601 := by
        have z1 := flatO_len kw.2
        have z2 := FB_le (d := n) (by omega)
        exact Nat.le_trans z1 (Nat.mul_le_mul kw.1 z2)
      have ex : Cls K C ∧ NoAttr K C "inner" := by
        rcases hC with rfl | rfl | rfl | rfl
        · exact ⟨T.c_Put, T.n_Put_inner⟩
        · exact ⟨T.c_Stop, T.n_Stop_inner⟩
        · exact ⟨T.c_If, T.n_If_inner⟩
        · exact ⟨T.c_Times, T.n_Times_inner⟩
      have e2 : Ex H (upd H' p (.lst (zs ++ [.ref a]))) := e.mut hp
      refine ⟨_, rfl, tyL hz, _, rfl, p, _, _, rfl, rfl, hz, Nat.lt_of_le_of_lt lz (by decide), ?_⟩
      refine ⟨_, rfl, tyL upd_same, _, rfl, a, _, _, _, _, rfl, (e0.trans e2) _ _ ha, ex.1, ex.2, fi, n, ii, ks, kids (R := Rw n) r, H0, rfl, rfl, ⟨e0.trans e2, hii, hks⟩, ⟨kw.1, kw.2, by omega⟩, fun zs2 q H2 hz2 hq e3 hq2 => ?_⟩
      have hp2 := e3 _ _ (upd_same (H := H') (o := .lst (zs ++ [.ref a])))
      refine ⟨p, q, _, zs2, rfl, rfl, hp2, .inl hq2, ?_, ?_⟩
      · have z1 : zs2.length ≤ 24 * 601 := by rw [paired_len hz2]; exact lk
        rw [List.length_append]
        exact Nat.le_trans (Nat.add_le_add (Nat.add_le_add lz (Nat.le_refl 1)) z1) (by decide)
      · refine ⟨(e2.trans e3).mut hp, ⟨_, rfl⟩, _, upd_same, ?_⟩
        rw [take_snoc hr, flatO_append, List.append_assoc]
        refine paired_append hf ?_
        rw [flatO_cons, flatO_nil, List.append_nil]
        exact .cons fr hz2
  · obtain ⟨e, ⟨o, rfl⟩, zs, hz, hf⟩ := h
    rw [lw, List.take_length] at hf
    exact ⟨_, rfl, k zs p _ hf hp e hz⟩
theorem ok_flat_rows (T : Txt w K mg) : ∀ n, FR P w K mg base (n + 10) (a_flat_rows K) (sp_flat_rows K NS n)
  | 0 => FR.never fun vs H Q ⟨d, ra, ws, rs, H0, hn, _⟩ => nomatch hn
  | n + 1 => flat_step T n (ok_flat_rows T n)
theorem look_step (T : Txt w K mg) (n : Nat) (GL : FR P w K mg base (n + 4) (a_Measure_look K) (sp_Measure_look K NS n)) : FR P w K mg base (n + 5) (a_Measure_look K) (sp_Measure_look K NS (n + 1)) := by
  obtain ⟨fd, F⟩ := T.d_Measure_look
  refine mkR F sc_Measure_look (fun _ _ _ _ _ _ us hl => match us, hl with | [_, _], _ => rfl) (fun vs H Q h => by obtain ⟨e, p, dc, tv, t, H0, s, hn, rfl, m, ⟨ht, wf⟩, k⟩ := h; rfl) fun cdv A outer s H vs Q E hr h => ?_
  obtain ⟨e, p, dc, tv, t, H0, s, hn, rfl, m, ⟨ht, wf⟩, k⟩ := h
  refine ⟨_, (pss_one (ps_if (pt_val (pe_callB (kcall_isi (K := K) rfl) (by rfl) T.z_isinstance b_isinstance (pa_cons (pv 1) (pa_cons (pe_glob (v := .ref _) rfl T.g_Not rfl) pa_nil)))) (pss_one (ps_expr (pe_methF (pv 0) T.c_Measure T.m_Measure_look (GL) (hr.mono (by omega)) (pa_cons (kfld (K := K) rfl (pv 1) rfl) pa_nil)))) (pss_one (ps_if (pt_cmpR op_eq (kfld (K := K) rfl (pv 1) rfl) pe_str (nomark _)) (pss_one (ps_expr (pe_methF (pv 0) T.c_Measure T.m_Measure_more_by (ok_Measure_more_by (K := K) (NS := NS) T) (hr.mono (by omega)) (pa_cons (pe_methF (pv 0) T.c_Measure T.m_Measure_told_of (ok_Measure_told_of (K := K) T) (hr.mono (by omega)) (pa_cons (pe_ix (kix_tup (K := K) rfl) (kfld (K := K) rfl (pv 1) rfl) pe_int (fun _ _ => rfl)) pa_nil)) (pa_cons (pe_methF (pv 0) T.c_Measure T.m_Measure_told_of (ok_Measure_told_of (K := K) T) (hr.mono (by omega)) (pa_cons (pe_ix (kix_tup (K := K) rfl) (kfld (K := K) rfl (pv 1) rfl) pe_int (fun _ _ => rfl)) pa_nil)) pa_nil))))) pss_nil)))), ?_⟩
  cases hn
  obtain ⟨dp, hp⟩ := m.ob
  cases t with
  | not t =>
    obtain ⟨a, dx, u, txt, v', us, rfl, ha, _, _, _, ht'⟩ := ht
    cases n with
    | zero => exact False.elim wf
    | succ n =>
      refine ⟨_, rfl, _, _, _, _, true, rfl, .own _, inst_ty T.x_inst_Not T.c_Not (m.ex _ _ ha), of_decide_eq_true T.x_is_Not_Not, true, rfl, ?_⟩
      refine ⟨_, rfl, p, dp, _, rfl, hp, (by kernel_rfl), _, rfl, a, _, dx, _, v', rfl, m.ex _ _ ha, T.c_Not, T.n_Not_test, (by kernel_rfl), n, p, dc, v', t, H0, s, rfl, rfl, m, ⟨ht', wf⟩, fun H' m' => ?_⟩
      exact k H' m'
  | ask word ns =>
    obtain ⟨a, dx, u, nm, txt, rfl, ha, h3, h4, _⟩ := ht
    have ha' := m.ex _ _ ha
    obtain ⟨kvs, nn⟩ := m.dc
    have wf' : word ∈ (["same", "less", "divides", "mirrored", "unlike"] : List Str) ∧ ns.length = askW word ∧ ∀ x ∈ ns, x ∈ NS := by cases n <;> exact wf
    refine ⟨_, rfl, _, _, _, _, false, rfl, .own _, inst_ty T.x_inst_Ask T.c_Ask ha', of_decide_eq_true T.x_is_Ask_Not, false, rfl, ?_⟩
    refine ⟨_, rfl, a, _, dx, _, .str word, rfl, ha', T.c_Ask, T.n_Ask_word, (by kernel_rfl), rfl, _, rfl, iteS (fun c => ?_) (fun c => ?_)⟩
    · subst c
      obtain ⟨_, hl, hin⟩ := wf'
      match ns, hl with
      | [x, y], _ =>
        have gt : ∀ (i : Nat) (z : Str) (Q2 : VK), ([x, y] : List Str)[i]? = some z → True := fun _ _ _ _ => trivial
        obtain ⟨t1, e1, g1⟩ := told_at T nn x
        obtain ⟨t2, e2, g2⟩ := told_at T nn y
        have h4' := ex_t m.ex h4
        refine ⟨_, rfl, p, dp, _, rfl, hp, (by kernel_rfl), ?_⟩
        refine ⟨_, rfl, p, dp, _, rfl, hp, (by kernel_rfl), _, rfl, a, _, dx, _, .ref nm, rfl, ha', T.c_Ask, T.n_Ask_names, (by kernel_rfl), _, _, _, _, rfl, rfl, h4', rfl, p, dp, dc, y, kvs, s, rfl, hp, nn.at_, ?_⟩
        refine ⟨_, rfl, p, dp, _, rfl, hp, (by kernel_rfl), _, rfl, a, _, dx, _, .ref nm, rfl, ha', T.c_Ask, T.n_Ask_names, (by kernel_rfl), _, _, _, _, rfl, rfl, h4', rfl, p, dp, dc, x, kvs, s, rfl, hp, nn.at_, ?_⟩
        rw [e1, e2]
        refine ⟨p, dc, t2, t1, _, _, H0, s, rfl, m, ⟨g2, g1, m.ok.now y, m.ok.now x⟩, fun H' m' => ?_⟩
        exact k H' m'
    · refine k H ?_
      show MeasAt K NS H0 H p dc (if word = "divides" then _ else s)
      rw [if_neg c]
      exact m
theorem ok_Measure_look (T : Txt w K mg) : ∀ n, FR P w K mg base (n + 4) (a_Measure_look K) (sp_Measure_look K NS n)
  | 0 => FR.never fun vs H Q ⟨e, p, dc, tv, t, H0, s, hn, _⟩ => nomatch hn
  | n + 1 => look_step T n (ok_Measure_look T n)
theorem go_step (T : Txt w K mg) (n : Nat) (GO : FR P w K mg base (2 * n + 20) (a_Measure_go K) (sp_Measure_go K NS n)) (GB : FR P w K mg base (2 * n + 21) (a_Measure_branch K) (sp_Measure_branch K NS n)) : FR P w K mg base (2 * n + 21 + 1) (a_Measure_go K) (sp_Measure_go K NS (n + 1)) := by
  obtain ⟨fd, F⟩ := T.d_Measure_go
  refine mkR F sc_Measure_go (fun _ _ _ _ _ _ us hl => match us, hl with | [_, _], _ => rfl) (fun vs H Q h => by obtain ⟨d, p, dc, ra, ws, rs, H0, s, hn, rfl, m, ⟨hra, hrs, wf, hl, hd, hNS⟩, k⟩ := h; rfl) fun cdv A outer s H vs Q E hr h => ?_
  obtain ⟨d, p, dc, ra, ws, rs, H0, s, hn, rfl, m, ⟨hra, hrs, wf, hl, hd, hNS⟩, k⟩ := h
  refine ⟨_, (pss_one (ps_for PassesOwn.never rfl (kpi_tup (K := K) rfl (pv 1)) (pg_name (i := 2) sc_Measure_go.nd rfl (Or.inl rfl)) (pss_one (ps_if (pt_val (pe_callB (kcall_isi (K := K) rfl) (by rfl) T.z_isinstance b_isinstance (pa_cons (pv 2) (pa_cons (pe_glob (v := .ref _) rfl T.g_Put rfl) pa_nil)))) (pss_one (ps_expr (pe_methF (pv 0) T.c_Measure T.m_Measure_note (ok_Measure_note (K := K) (NS := NS) T) (hr.mono (by omega)) (pa_cons (pv 2) pa_nil)))) (pss_one (ps_if (pt_val (pe_callB (kcall_isi (K := K) rfl) (by rfl) T.z_isinstance b_isinstance (pa_cons (pv 2) (pa_cons (pe_glob (v := .ref _) rfl T.g_If rfl) pa_nil)))) (pss_one (ps_expr (pe_methF (pv 0) T.c_Measure T.m_Measure_branch (GB) (hr.mono (by omega)) (pa_cons (pv 2) pa_nil)))) (pss_one (ps_if (pt_val (pe_callB (kcall_isi (K := K) rfl) (by rfl) T.z_isinstance b_isinstance (pa_cons (pv 2) (pa_cons (pe_glob (v := .ref _) rfl T.g_Times rfl) pa_nil)))) (pss_one (ps_for PassesOwn.never rfl (pi_range1 (by rfl) T.z_range (pa_cons (kfld (K := K) rfl (pv 2) rfl) pa_nil)) (pg_name (i := 3) sc_Measure_go.nd rfl (Or.inl rfl)) (pss_one (ps_expr (pe_methF (pv 0) T.c_Measure T.m_Measure_go (GO) (hr.mono (by omega)) (pa_cons (kfld (K := K) rfl (pv 2) rfl) pa_nil)))))) pss_nil)))))))), ?_⟩
  cases hn
  have lw : ws.length = rs.length := paired_len hrs
  refine ⟨_, rfl, ra, rfl, ⟨_, ex_t m.ex hra⟩, for_tup (fun i σ' H' => (∃ o1 o2, σ' = [some (.ref p), some (.ref ra), o1, o2]) ∧ ∃ dc', MeasAt K NS H0 H' p dc' (goM n (rs.take i) s)) ⟨⟨_, _, rfl⟩, dc, ?_⟩ (fun i σ' H' _ h => let ⟨_, m'⟩ := h.2; ex_t m'.ex hra) (fun i v σ' H' hi h => ?_) (fun σ' H' h => ?_)⟩
  · cases n with
    | zero => exact m
    | succ n => exact m
  · obtain ⟨⟨o1, o2, rfl⟩, dc', m'⟩ := h
    obtain ⟨r, hr⟩ := get_of_len hi lw.symm
    have hv : RowAt K NS n H0 v r := paired_get hrs hi hr
    have rm : r ∈ rs := List.mem_of_getElem? hr
    have hd' := wf r rm
    rw [take_snoc hr]
    cases n with
    | zero => exact nomatch r
    | succ n =>
      have eg : goM (n + 1) (rs.take i ++ [r]) s = stepM n (goM n) r (goM (n + 1) (rs.take i) s) := List.foldl_append
      rw [eg]
      generalize goM (n + 1) (rs.take i) s = s1 at m'
      obtain ⟨dp, hp⟩ := m'.ob
      cases r with
      | put x g =>
        obtain ⟨a, dx, l, ii, u, gv, rfl, ha, rp, hg⟩ := hv
        have ha' := m'.ex _ _ ha
        refine ⟨_, rfl, _, _, _, _, true, rfl, .own _, inst_ty T.x_inst_Put T.c_Put ha', of_decide_eq_true T.x_is_Put_Put, true, rfl, ?_⟩
        refine ⟨_, rfl, p, dp, _, rfl, hp, (by kernel_rfl), _, rfl, p, dc', a, dx, l, ii, u, gv, x, g, H0, s1, rfl, m', ⟨ha, hg, hd'.2, hd'.1, hNS⟩, fun H2 m2 => ?_⟩
        exact ⟨⟨_, _, rfl⟩, dc', m2⟩
      | stop =>
        obtain ⟨a, dx, l, ii, u, rfl, ha, rp⟩ := hv
        have ha' := m'.ex _ _ ha
        refine ⟨_, rfl, _, _, _, _, false, rfl, .own _, inst_ty T.x_inst_Stop T.c_Stop ha', of_decide_eq_true T.x_is_Stop_Put, false, rfl, ?_⟩
        refine ⟨_, rfl, _, _, _, _, false, rfl, .own _, inst_ty T.x_inst_Stop T.c_Stop ha', of_decide_eq_true T.x_is_Stop_If, false, rfl, ?_⟩
        refine ⟨_, rfl, _, _, _, _, false, rfl, .own _, inst_ty T.x_inst_Stop T.c_Stop ha', of_decide_eq_true T.x_is_Stop_Times, false, rfl, ?_⟩
        exact ⟨⟨_, _, rfl⟩, dc', m'⟩
      | ife t rs1 os =>
        have hv' := hv
        obtain ⟨a, dx, ra1, oa, l, ii, u, tv, vs1, ws1, rfl, ha, rp, ht, ⟨h5, h6⟩, h7, h8⟩ := hv
        have ha' := m'.ex _ _ ha
        refine ⟨_, rfl, _, _, _, _, false, rfl, .own _, inst_ty T.x_inst_If T.c_If ha', of_decide_eq_true T.x_is_If_Put, false, rfl, ?_⟩
        refine ⟨_, rfl, _, _, _, _, true, rfl, .own _, inst_ty T.x_inst_If T.c_If ha', of_decide_eq_true T.x_is_If_If, true, rfl, ?_⟩
        refine ⟨_, rfl, p, dp, _, rfl, hp, (by kernel_rfl), _, rfl, n, p, dc', a, t, rs1, os, H0, s1, rfl, rfl, m', ⟨hv', hd', by omega, hNS⟩, fun dc2 H2 m2 => ?_⟩
        exact ⟨⟨_, _, rfl⟩, dc2, m2⟩
      | times c rs1 =>
        obtain ⟨a, dx, ra1, l, ii, u, vs1, rfl, ha, rp, h5, h6⟩ := hv
        have ha' := m'.ex _ _ ha
        obtain ⟨w1, w2, w3⟩ := (show c ≤ 4 ∧ rs1.length ≤ 12 ∧ ∀ r ∈ rs1, Rw.wf NS n r from hd')
        refine ⟨_, rfl, _, _, _, _, false, rfl, .own _, inst_ty T.x_inst_Times T.c_Times ha', of_decide_eq_true T.x_is_Times_Put, false, rfl, ?_⟩
        refine ⟨_, rfl, _, _, _, _, false, rfl, .own _, inst_ty T.x_inst_Times T.c_Times ha', of_decide_eq_true T.x_is_Times_If, false, rfl, ?_⟩
        refine ⟨_, rfl, _, _, _, _, true, rfl, .own _, inst_ty T.x_inst_Times T.c_Times ha', of_decide_eq_true T.x_is_Times_Times, true, rfl, ?_⟩
        refine s_forR1 (n := (c : Int)) (ea_cons (ev_fld (ev_var rfl) ha' T.c_Times T.n_Times_count (by kernel_rfl)) ea_nil) ⟨by omega, by omega⟩ (fun j σ2 H2 => (∃ o2, σ2 = [some (.ref p), some (.ref ra), some (.ref a), o2]) ∧ ∃ dc2, MeasAt K NS H0 H2 p dc2 (times (goM n rs1) j s1)) (fun H1 e1 => ⟨⟨_, rfl⟩, dc', m'.mono e1⟩) (fun j σ2 H2 hj h2 => ?_) (fun σ2 H2 h2 => ?_)
        · obtain ⟨⟨o3, rfl⟩, dc2, m2⟩ := h2
          obtain ⟨dp2, hp2⟩ := m2.ob
          refine ⟨_, rfl, p, dp2, _, rfl, hp2, (by kernel_rfl), _, rfl, a, _, dx, _, .ref ra1, rfl, m2.ex _ _ ha, T.c_Times, T.n_Times_rows, (by kernel_rfl), n, p, dc2, ra1, vs1, rs1, H0, _, rfl, rfl, m2, ⟨h5, h6, w3, by omega, by omega, hNS⟩, fun dc3 H3 m3 => ?_⟩
          refine ⟨⟨_, rfl⟩, dc3, ?_⟩
          rw [times_succ']
          exact m3
        · obtain ⟨⟨o3, rfl⟩, dc2, m2⟩ := h2
          exact ⟨⟨_, _, rfl⟩, dc2, m2⟩
  · obtain ⟨⟨o1, o2, rfl⟩, dc', m'⟩ := h
    rw [lw, List.take_length] at m'
    exact k dc' H' m'
end
end E97
set_option Elab.async false
set_option linter.all false
set_option maxRecDepth 100000
set_option maxHeartbeats 4000000
/-! P4: branch, measures -/
namespace E97
open PySem PySem.Spec PyProof.Rows L2 Evl
theorem comb_ok {a b : M4} (ha : a.ok) (hb : b.ok) : (comb a b).ok :=
  ⟨⟨Int.le_trans ha.1.1 (gr_l _ _), gr_le ha.1.2 hb.1.2⟩, Int.le_trans ha.2.1 (gr_l _ _), gr_le ha.2.2 hb.2.2⟩
theorem setN_snoc {l : List Str} {y : Str} {f g : Str → M4} : (fun x => if x ∈ l ++ [y] then f x else g x) = setN (fun x => if x ∈ l then f x else g x) y (f y) := funext fun x => by
  unfold setN
  dsimp only
  by_cases q : x = y
  · subst q
    rw [if_pos rfl, if_pos (List.mem_append_right _ List.mem_cons_self)]
  · rw [if_neg q]
    by_cases q2 : x ∈ l
    · rw [if_pos q2, if_pos (List.mem_append_left _ q2)]
    · rw [if_neg q2, if_neg (fun z => by
        rcases List.mem_append.mp z with z | z
        · exact q2 z
        · exact q (List.mem_singleton.mp z))]
theorem unst_ok {a : M4} (ha : a.ok) : (unst a).ok := ha
theorem ex_unlock {H H' : Hp} {d : Addr} {u o : HO} (h : H d = some u) (e : Ex (upd H d o) H') : Ex H (upd H' d u) := fun b z hb => by
  by_cases q : b = d
  · subst q
    rw [upd_same, ← h]
    exact hb
  · rw [upd_ne q]
    exact e _ _ (by rw [upd_ne q]; exact hb)
/-- the keys that the joining loop goes over -/
def joinKeys (kv3 kv6 : List (Key × V)) : List Key := kv3.map (·.1) ++ kv6.filterMap fun kv => if (valV kv3 kv.1).isSome then none else some kv.1
theorem valV_in {kvs : List (Key × V)} {k : Key} (h : k ∈ kvs.map (·.1)) : (valV kvs k).isSome = true := by
  cases e : valV kvs k with
  | some v => rfl
  | none => exact absurd h (valV_not e)
theorem valV_mem {kvs : List (Key × V)} {k : Key} {v : V} (h : valV kvs k = some v) : k ∈ kvs.map (·.1) := by
  induction kvs with
  | nil => cases h
  | cons kv r ih =>
    by_cases q : kv.1 = k
    · exact q ▸ List.mem_cons_self
    · rw [valV_neg q] at h
      exact List.mem_cons_of_mem _ (ih h)
theorem joinKeys_all {kv3 kv6 : List (Key × V)} {k : Key} (h : k ∉ joinKeys kv3 kv6) : valV kv3 k = none ∧ valV kv6 k = none := by
  have h3 : valV kv3 k = none := by
    cases e : valV kv3 k with
    | none => rfl
    | some v => exact absurd (List.mem_append_left _ (valV_mem e)) h
  refine ⟨h3, ?_⟩
  cases e : valV kv6 k with
  | none => rfl
  | some v =>
    obtain ⟨kv, hkv, rfl⟩ := List.mem_map.mp (valV_mem e)
    refine absurd (List.mem_append_right _ (List.mem_filterMap.mpr ⟨kv, hkv, ?_⟩)) h
    rw [h3]
    rfl
theorem joinKeys_in {K : PySem.W.Frag} {NS : List Str} {H : Hp} {d3 d6 : Addr} {kv3 kv6 : List (Key × V)} {f3 f6 : Str → M4} (n3 : NowAt K NS H d3 kv3 f3) (n6 : NowAt K NS H d6 kv6 f6) {k : Key} (h : k ∈ joinKeys kv3 kv6) : ∃ x ∈ NS, k = Sum.inr x := by
  rcases List.mem_append.mp h with h | h
  · exact n3.ks k h
  · obtain ⟨kv, hkv, e⟩ := List.mem_filterMap.mp h
    split at e
    · cases e
    · cases e
      exact n6.ks _ (List.mem_map.mpr ⟨kv, hkv, rfl⟩)
section
variable {P : Program} {w : World} {K : PySem.W.Frag} {mg : Str → Option Value} {base : Heap} {NS : List Str}
theorem branch_step (T : Txt w K mg) (n : Nat) (GL : FR P w K mg base 9 (a_Measure_look K) (sp_Measure_look K NS 5)) (GF : FR P w K mg base (n + 10) (a_flat_rows K) (sp_flat_rows K NS n)) (GO : FR P w K mg base (2 * n + 20) (a_Measure_go K) (sp_Measure_go K NS n)) : FR P w K mg base (2 * n + 20 + 1) (a_Measure_branch K) (sp_Measure_branch K NS n) := by
  obtain ⟨fd, F⟩ := T.d_Measure_branch
  refine mkR F sc_Measure_branch (fun _ _ _ _ _ _ us hl => match us, hl with | [_, _], _ => rfl) (fun vs H Q h => by obtain ⟨d, p, dc, a, t, rs, os, H0, s, hn, rfl, m, ⟨hrow, hwf, hd, hNS⟩, k⟩ := h; rfl) fun cdv A outer s H vs Q E hr h => ?_
  obtain ⟨d, p, dc, a, t, rs, os, H0, s, hn, rfl, m, ⟨hrow, hwf, hd, hNS⟩, k⟩ := h
  refine ⟨_, (pss_cons (ps_expr (pe_methF (pv 0) T.c_Measure T.m_Measure_look (GL) (hr.mono (by omega)) (pa_cons (kfld (K := K) rfl (pv 1) rfl) pa_nil)))
  (pss_cons (ps_set (i := 2) sc_Measure_branch.nd rfl (Or.inl rfl) (pe_callTy call_dictD (by rfl) T.z_dict b_dict (pa_cons (kfld (K := K) rfl (pv 0) rfl) pa_nil)))
  (pss_cons (ps_expr (pe_methF (pv 0) T.c_Measure T.m_Measure_go (GO) (hr.mono (by omega)) (pa_cons (kfld (K := K) rfl (pv 1) rfl) pa_nil)))
  (pss_cons (ps_asg (pe_tup (pa_cons (kfld (K := K) rfl (pv 0) rfl) (pa_cons (pv 2) pa_nil))) (kpg_tup (K := K) (n := 2) rfl (by rfl) (pgs_cons (pg_name (i := 3) sc_Measure_branch.nd rfl (Or.inr rfl)) (pgs_cons (kpg_fld (K := K) rfl (pv 0)) pgs_nil))))
  (pss_cons (ps_expr (pe_methF (pv 0) T.c_Measure T.m_Measure_go (GO) (hr.mono (by omega)) (pa_cons (kfld (K := K) rfl (pv 1) rfl) pa_nil)))
  (pss_cons (ps_asg (pe_tup (pa_cons (kfld (K := K) rfl (pv 0) rfl) (pa_cons pe_dnewK pa_nil))) (kpg_tup (K := K) (n := 2) rfl (by rfl) (pgs_cons (pg_name (i := 4) sc_Measure_branch.nd rfl (Or.inl rfl)) (pgs_cons (kpg_fld (K := K) rfl (pv 0)) pgs_nil))))
  (pss_cons (ps_setLc (i := 5) (own := [("inner", 11)]) rfl sc_Measure_branch.nd rfl rfl (sw_true rfl rfl rfl (by decide +kernel)) (kpi_list (K := K) rfl (pe_callF (GF) (hr.mono (by omega)) (by rfl) T.g_flat_rows T.k_flat_rows (pa_cons (kfld (K := K) rfl (pv 1) rfl) pa_nil))) (blkOk_by (own := [("inner", 11)]) (N := N_Measure_branch) (sc := defScope s_Measure_branch) (by decide +kernel)) (fun _ _ _ _ _ => (pg_name (i := 11) sc_Measure_branch.nd rfl (Or.inl rfl))) (fun _ _ _ _ _ => (pts_one (pt_val (pe_callB (kcall_isi (K := K) rfl) (by rfl) T.z_isinstance b_isinstance (pa_cons (pv 11) (pa_cons (pe_glob (v := .ref _) rfl T.g_Put rfl) pa_nil)))))) (fun _ _ _ _ _ => (kfld (K := K) rfl (pv 11) rfl)))
  (pss_cons (ps_for PassesOwn.never rfl (kpi_list (K := K) rfl (pe_op op_cat (pe_callTy (call_list_dK rfl) (by rfl) T.z_list b_list (pa_cons (pv 3) pa_nil)) (pe_lock (pe_lc (own := [("name", 6)]) rfl sc_Measure_branch.nd (pi_keys (pv 4)) (blkOk_by (own := [("name", 6)]) (N := N_Measure_branch) (sc := defScope s_Measure_branch) (by decide +kernel)) (fun _ _ _ _ _ => (pg_name (i := 6) sc_Measure_branch.nd rfl (Or.inl rfl))) (fun _ _ _ _ _ => (pts_one (pt_cmp (pc_dnotin (hu_of hr) (pv 6) (pv 3))))) (fun _ _ _ _ _ => (pv 6)))))) (pg_name (i := 6) sc_Measure_branch.nd rfl (Or.inl rfl)) (pss_cons (ps_par (i := 7) (j := 8) (by rfl) sc_Measure_branch.nd rfl rfl (by decide) rfl rfl (pa_cons (pe_dget2 (hu_of hr) (pv 3) (pv 6) (pe_glob (v := .ref _) rfl T.g_AT_FIRST rfl) (by exact ⟨by rfl, by rfl, by rfl, by rfl⟩)) (pa_cons (pe_dget2 (hu_of hr) (pv 4) (pv 6) (pe_glob (v := .ref _) rfl T.g_AT_FIRST rfl) (by exact ⟨by rfl, by rfl, by rfl, by rfl⟩)) pa_nil)) (by rfl))
  (pss_cons (ps_set (i := 9) sc_Measure_branch.nd rfl (Or.inl rfl) (pe_and (pe_ix (kix_tup (K := K) rfl) (pv 7) pe_int (fun _ _ => rfl)) (pe_one (pe_ix (kix_tup (K := K) rfl) (pv 8) pe_int (fun _ _ => rfl)))))
  (pss_one (ps_dput (hu_of hr) (kfld (K := K) rfl (pv 0) rfl) (pv 6) (pe_tup (pa_cons (pe_callF (ok_greater (K := K) T) (hr.mono (by omega)) (by rfl) T.g_greater T.k_greater (pa_cons (pe_ix (kix_tup (K := K) rfl) (pv 7) pe_int (fun _ _ => rfl)) (pa_cons (pe_ix (kix_tup (K := K) rfl) (pv 8) pe_int (fun _ _ => rfl)) pa_nil))) (pa_cons (pe_callF (ok_greater (K := K) T) (hr.mono (by omega)) (by rfl) T.g_greater T.k_greater (pa_cons (pe_ix (kix_tup (K := K) rfl) (pv 7) pe_int (fun _ _ => rfl)) (pa_cons (pe_ix (kix_tup (K := K) rfl) (pv 8) pe_int (fun _ _ => rfl)) pa_nil))) (pa_cons (pe_ix (kix_tup (K := K) rfl) (pv 7) pe_int (fun _ _ => rfl)) (pa_cons (pv 9) pa_nil))))) rfl)))))
  (pss_one (ps_for PassesOwn.never rfl (kpi_list (K := K) rfl (pv 5)) (pg_name (i := 6) sc_Measure_branch.nd rfl (Or.inl rfl)) (pss_cons (ps_set (i := 10) sc_Measure_branch.nd rfl (Or.inl rfl) (pe_methF (pv 0) T.c_Measure T.m_Measure_told_of (ok_Measure_told_of (K := K) T) (hr.mono (by omega)) (pa_cons (pv 6) pa_nil)))
  (pss_one (ps_dput (hu_of hr) (kfld (K := K) rfl (pv 0) rfl) (pv 6) (pe_tup (pa_cons (pe_ix (kix_tup (K := K) rfl) (pv 10) pe_int (fun _ _ => rfl)) (pa_cons (pe_ix (kix_tup (K := K) rfl) (pv 10) pe_int (fun _ _ => rfl)) (pa_cons pe_bl (pa_cons (pe_ix (kix_tup (K := K) rfl) (pv 10) pe_int (fun _ _ => rfl)) pa_nil))))) rfl))))))))))))), ?_⟩
  subst hn
  obtain ⟨a', dx, ra, oa, l, ii, u, tv, vs, ws, ea, ha, ⟨hlines, hin, hused⟩, ht, ⟨h5, h6⟩, h7, h8⟩ := hrow
  cases ea
  obtain ⟨w1, ⟨w2, w3⟩, w4, w5⟩ := (show t.wf NS 4 ∧ (rs.length ≤ 12 ∧ ∀ r ∈ rs, Rw.wf NS d r) ∧ os.length ≤ 12 ∧ ∀ r ∈ os, Rw.wf NS d r from hwf)
  obtain ⟨dp, hp⟩ := m.ob
  have ha' := m.ex _ _ ha
  refine ⟨_, rfl, p, dp, _, rfl, hp, (by kernel_rfl), _, rfl, a, _, dx, _, tv, rfl, ha', T.c_If, T.n_If_test, (by kernel_rfl), 4, p, dc, tv, t, H0, s, rfl, rfl, m, ⟨ht, w1⟩, fun H1 m1 => ?_⟩
  -- before = dict(self.now)
  obtain ⟨dp1, hp1⟩ := m1.ob
  obtain ⟨kv1, n1⟩ := m1.dc
  refine ⟨_, rfl, p, _, dp1, _, _, rfl, hp1, T.c_Measure, T.n_Measure_now, mfs_now _ _, dc, kv1, rfl, .inl n1.at_, fun b hb => ?_⟩
  have eb := Ex.new (H := H1) (o := .dK kv1) hb
  have m2 := m1.mono eb
  have nb : NowAt K NS (upd H1 b (.dK kv1)) b kv1 (lookM t s).now := { n1.mono eb with at_ := upd_same }
  have bp : b ≠ p := (ne_of_none hp1 hb).symm
  have bdc : b ≠ dc := (ne_of_none n1.at_ hb).symm
  -- self.go(row.rows)
  refine ⟨_, rfl, p, dp1, _, rfl, eb _ _ hp1, (by kernel_rfl), _, rfl, a, _, dx, _, .ref ra, rfl, m2.ex _ _ ha, T.c_If, T.n_If_rows, (by kernel_rfl), d, p, dc, ra, vs, rs, _, _, rfl, rfl, m2.big, ⟨ex_t m2.sub h5, RowsAt.mono m2.sub h6, w3, by omega, by omega, hNS⟩, fun dc3 H3 m3' => ?_⟩
  have m3 := m2.back m3'
  have nb3 := m2.keepN m3' nb bp bdc
  obtain ⟨dp3, hp3⟩ := m3.ob
  obtain ⟨kv3, n3⟩ := m3.dc
  have d3p : dc3 ≠ p := ne_of n3.at_ hp3 (fun z => nomatch z)
  have d3b : dc3 ≠ b := fun e => by
    have z := m3'.frd
    rw [e, rm2_of upd_same bp bdc] at z
    cases z
  have hb0 : H0 b = none := fresh_back m1.ex hb
  have okS2 := m3.ok
  have ok1 := m1.ok
  have k' : ∀ s2 s3, s2 = goM d rs (lookM t s) → s3 = goM d os { s2 with now := (lookM t s).now } → ∀ dc' H', MeasAt K NS H0 H' p dc' { s3 with now := fun x => if x ∈ puts d rs ++ puts d os then unst (comb (s2.now x) (s3.now x)) else comb (s2.now x) (s3.now x) } → Q .non H' := by
    rintro _ _ rfl rfl
    exact k
  obtain ⟨s2, es2⟩ : ∃ z, z = goM d rs (lookM t s) := ⟨_, rfl⟩
  rw [← es2] at m3' m3 n3 hp3 okS2
  -- one, self.now = (self.now, before)
  refine ⟨_, rfl, p, _, dp3, _, _, rfl, hp3, T.c_Measure, T.n_Measure_now, mfs_now _ _, _, rfl, sz2, fun q hq => ?_⟩
  have eq1 := Ex.new (o := .tup [V.ref dc3, V.ref b]) hq
  refine ⟨q, _, rfl, SqT.of upd_same, rfl, _, _, rfl, _, _, rfl, _, rfl, p, _, dp3, _, rfl, eq1 _ _ hp3, T.c_Measure, T.n_Measure_now, (by show 4 < 1000; decide), rfl, ?_⟩
  rw [mfs_putNow]
  have m5 := (m3.mono eq1).swap (eq1 _ _ hp3) (nb3.mono eq1) hb0 ok1.now rfl
  have n35 := (n3.mono eq1).other (o := .ins (C_Measure K) dp3 (mfs b { s2 with now := (lookM t s).now })) (eq1 _ _ hp3)
  -- self.go(row.others)
  refine ⟨_, rfl, p, dp3, _, rfl, upd_same, (by kernel_rfl), _, rfl, a, _, dx, _, .ref oa, rfl, m5.ex _ _ ha, T.c_If, T.n_If_others, (by kernel_rfl), d, p, b, oa, ws, os, _, _, rfl, rfl, m5.big, ⟨ex_t m5.sub h7, RowsAt.mono m5.sub h8, w5, by omega, by omega, hNS⟩, fun dc6 H6 m6' => ?_⟩
  have m6 := m5.back m6'
  have n36 := m5.keepN m6' n35 d3p d3b
  obtain ⟨dp6, hp6⟩ := m6.ob
  obtain ⟨kv6, n6⟩ := m6.dc
  have d63 : dc6 ≠ dc3 := fun e => by
    have z := m6'.frd
    rw [e, rm2_of n35.at_ d3p d3b] at z
    cases z
  obtain ⟨s3, es3⟩ : ∃ z, z = goM d os { s2 with now := (lookM t s).now } := ⟨_, rfl⟩
  rw [← es3] at m6' m6 n6 hp6
  have ok6 := m6.ok
  -- other, self.now = (self.now, {})
  refine ⟨_, rfl, p, _, dp6, _, _, rfl, hp6, T.c_Measure, T.n_Measure_now, mfs_now _ _, ?_⟩
  intro e he
  refine ⟨sz2, fun q2 hq2 => ?_⟩
  have ee := Ex.new (o := .dK []) he
  have eq2 := ee.trans (Ex.new (o := .tup [V.ref dc6, V.ref e]) hq2)
  refine ⟨q2, _, rfl, SqT.of upd_same, rfl, _, _, rfl, _, _, rfl, _, rfl, p, _, dp6, _, rfl, eq2 _ _ hp6, T.c_Measure, T.n_Measure_now, (by show 4 < 1000; decide), rfl, ?_⟩
  rw [mfs_putNow]
  have hee : (upd (upd H6 e (.dK [])) q2 (.tup [V.ref dc6, V.ref e])) e = some (.dK []) := Ex.new hq2 _ _ upd_same
  have m7 := (m6.mono eq2).swap (eq2 _ _ hp6) (NowAt.new hee) (fresh_back m6.ex he) (fun _ => first4_ok) rfl
  have o7 : HO.ins (C_Measure K) dp6 (mfs e s3) = .ins (C_Measure K) dp6 (mfs e { s3 with now := fun _ => first4 }) := rfl
  have n37 := (n36.mono eq2).other (o := .ins (C_Measure K) dp6 (mfs e { s3 with now := fun _ => first4 })) (eq2 _ _ hp6)
  have n67 := (n6.mono eq2).other (o := .ins (C_Measure K) dp6 (mfs e { s3 with now := fun _ => first4 })) (eq2 _ _ hp6)
  have e3e : dc3 ≠ e := ne_of_none n36.at_ he
  have e6e : dc6 ≠ e := ne_of_none n6.at_ he
  -- turned
  have wfb : ∀ r ∈ rs ++ os, Rw.wf NS d r := fun r hr => by
    rcases List.mem_append.mp hr with hr | hr
    · exact w3 r hr
    · exact w5 r hr
  refine ⟨_, rfl, a, _, dx, _, .ref ii, rfl, m7.ex _ _ ha, T.c_If, T.n_If_inner, (by kernel_rfl), d, ii, vs ++ ws, rs ++ os, H0, rfl, rfl, ⟨m7.ex, hin, paired_append h6 h8⟩, ⟨by rw [List.length_append]; omega, wfb, hd⟩, fun zs q3 H8 hz hq3 e8 hH8 => ?_⟩
  have lz : zs.length ≤ 24 * 601 := by
    rw [paired_len hz]
    exact Nat.le_trans (flatO_len wfb) (Nat.mul_le_mul (by rw [List.length_append]; omega) (FB_le hd))
  refine ⟨q3, rfl, ⟨zs, sq_of hH8⟩, fun tl htl => ?_⟩
  refine lc_list (xs := zs) (fun i H' => Ex H8 H' ∧ H' tl = some (.lst ((((flatO d (rs ++ os)).map fun o => o.map V.str).take i).filterMap id))) ⟨Ex.new htl, upd_same⟩ (fun i H' _ z => ex_l z.1 (sq_of hH8)) (fun i x H' hi z => ?_) fun H9 z => ?_
  · obtain ⟨r, hr⟩ := get_of_len (ys := (flatO d (rs ++ os)).map fun o => o.map V.str) hi (by rw [List.length_map, paired_len hz])
    refine lc_turn (r := r) ?_ (Ex.refl H8) htl z.1 z.2 (rs_len (by rw [List.length_map, ← paired_len hz]; exact Nat.le_trans lz (by decide))) fun H3 e3 h3 => ⟨e3, by rw [take_rs hr]; exact h3⟩
    rw [List.getElem?_map] at hr
    cases ho : (flatO d (rs ++ os))[i]? with
    | none => rw [ho] at hr; cases hr
    | some o =>
      rw [ho] at hr
      cases hr
      obtain ⟨ar, C, dr, ur, fs, us, rfl, hfa, _, hcase⟩ := paired_get hz hi ho
      have hfa8 : H8 ar = some (.ins C dr fs) := e8 _ _ (m7.ex _ _ hfa)
      intro H10 e10 R kR
      cases o with
      | some y =>
        obtain ⟨rfl, hy⟩ := hcase
        exact ⟨rfl, _, rfl, _, _, _, _, true, rfl, .own _, inst_ty T.x_inst_Put T.c_Put (e10 _ _ hfa8), of_decide_eq_true T.x_is_Put_Put, true, rfl, _, rfl, ar, _, dr, fs, .str y, rfl, e10 _ _ hfa8, T.c_Put, T.n_Put_name, hy, kR H10 (Ex.refl H10)⟩
      | none =>
        rcases hcase with rfl | rfl | rfl
        · exact ⟨rfl, _, rfl, _, _, _, _, false, rfl, .own _, inst_ty T.x_inst_Stop T.c_Stop (e10 _ _ hfa8), of_decide_eq_true T.x_is_Stop_Put, false, rfl, kR H10 (Ex.refl H10)⟩
        · exact ⟨rfl, _, rfl, _, _, _, _, false, rfl, .own _, inst_ty T.x_inst_If T.c_If (e10 _ _ hfa8), of_decide_eq_true T.x_is_If_Put, false, rfl, kR H10 (Ex.refl H10)⟩
        · exact ⟨rfl, _, rfl, _, _, _, _, false, rfl, .own _, inst_ty T.x_inst_Times T.c_Times (e10 _ _ hfa8), of_decide_eq_true T.x_is_Times_Put, false, rfl, kR H10 (Ex.refl H10)⟩
  obtain ⟨e9, hH9⟩ := z
  rw [show zs.length = ((flatO d (rs ++ os)).map fun o => o.map V.str).length by rw [List.length_map, paired_len hz], List.take_length] at hH9
  have names : ((flatO d (rs ++ os)).map fun o => o.map V.str).filterMap id = (puts d rs ++ puts d os).map V.str := by
    rw [puts_flat, puts_flat, ← List.filterMap_append, ← flatO_append, List.filterMap_map, List.map_filterMap]
    rfl
  rw [names] at hH9
  have nin : ∀ x ∈ puts d rs ++ puts d os, x ∈ NS := fun x hx => by
    rw [puts_flat, puts_flat, ← List.filterMap_append, ← flatO_append] at hx
    obtain ⟨o, ho, e⟩ := List.mem_filterMap.mp hx
    exact flatO_in wfb x (by rw [← show o = some x from e]; exact ho)
  have e89 := e8.trans e9
  have m9 := m7.mono e89
  have n39 := n37.mono e89
  have n69 := n67.mono e89
  -- list(one) + [name for name in other if name not in one]
  refine ⟨_, rfl, dc3, kv3, rfl, n39.at_, fun l1 hl1 => ?_⟩
  have el1 := Ex.new (o := .lst (kv3.map fun kv => kV kv.1)) hl1
  have h6a := el1 _ _ n69.at_
  refine ⟨dc6, .dK kv6, h6a, True.intro, fun od => ?_⟩
  refine ⟨_, rfl, dc6, od, rfl, .inl ⟨kv6, upd_same, fun D hD => ?_⟩⟩
  have h3a : (upd (upd H9 l1 (.lst (kv3.map fun kv => kV kv.1))) dc6 (.frz od (.dK kv6))) dc3 = some (.dK kv3) := by
    rw [upd_ne d63.symm]
    exact el1 _ _ n39.at_
  refine lc_it walk_keys (fun i H' => Ex (upd (upd H9 l1 (.lst (kv3.map fun kv => kV kv.1))) dc6 (.frz od (.dK kv6))) H' ∧ H' D = some (.lst (((kv6.take i).filterMap fun kv => if (valV kv3 kv.1).isSome then none else some kv.1).map kV))) ⟨Ex.new hD, upd_same⟩ (fun i H' _ z => z.1 _ _ upd_same) (fun i x H' H'' hi z y => ?_) fun H10' z => ?_
  · obtain ⟨rfl, kk, v, hk, rfl⟩ := y
    have len : (((kv6.take i).filterMap fun kv => if (valV kv3 kv.1).isSome then none else some kv.1).map kV).length < sizeLine := by
      rw [List.length_map]
      refine Nat.lt_of_le_of_lt (List.length_filterMap_le _ _) ?_
      rw [List.length_take]
      have := n69.few
      exact Nat.lt_of_le_of_lt (show _ ≤ 20 by omega) (by decide)
    have e1 : ∀ o : List Key, (if (valV kv3 kk).isSome then none else some kk : Option Key).toList = o → (kv6.take (i + 1)).filterMap (fun kv => if (valV kv3 kv.1).isSome then none else some kv.1) = ((kv6.take i).filterMap fun kv => if (valV kv3 kv.1).isSome then none else some kv.1) ++ o := fun o ho => by
      rw [take_snoc hk, List.filterMap_append, ← ho]
      congr 1
    refine ⟨rfl, _, rfl, _, rfl, dc3, _, rfl, DGet.k (z.1 _ _ h3a), ?_⟩
    cases hv : (valV kv3 kk).isSome with
    | true =>
      refine ⟨_, rfl, z.1, ?_⟩
      rw [e1 [] (by rw [hv]; rfl), List.append_nil]
      exact z.2
    | false =>
      refine ⟨_, rfl, _, rfl, _, z.2, len, z.1.mut hD, ?_⟩
      rw [e1 [kk] (by rw [hv]; rfl), List.map_append]
      exact upd_same
  obtain ⟨e10', hD10⟩ := z
  rw [List.take_length] at hD10
  have e10 : Ex (upd H9 l1 (.lst (kv3.map fun kv => kV kv.1))) (upd H10' dc6 (.dK kv6)) := ex_unlock h6a e10'
  have Dne : D ≠ dc6 := fun e => by
    rw [e, upd_same] at hD
    cases hD
  have hD11 : (upd H10' dc6 (.dK kv6)) D = some (.lst ((kv6.filterMap fun kv => if (valV kv3 kv.1).isSome then none else some kv.1).map kV)) := by
    rw [upd_ne Dne]
    exact hD10
  refine ⟨e10' _ _ upd_same, ?_⟩
  generalize hH11 : upd H10' dc6 (.dK kv6) = H11 at e10 hD11 ⊢
  have hl11 := e10 _ _ (upd_same (H := H9) (o := .lst (kv3.map fun kv => kV kv.1)))
  have lj : (joinKeys kv3 kv6).length ≤ 40 := by
    unfold joinKeys
    rw [List.length_append, List.length_map]
    have a1 := n39.few
    have a2 := n69.few
    have a3 := List.length_filterMap_le (fun kv : Key × V => if (valV kv3 kv.1).isSome then none else some kv.1) kv6
    omega
  refine ⟨l1, D, _, _, rfl, rfl, hl11, hD11, ?_, fun r hr => ?_⟩
  · rw [List.length_map, List.length_map]
    have a1 := n39.few
    have a2 := n69.few
    have a3 := List.length_filterMap_le (fun kv : Key × V => if (valV kv3 kv.1).isSome then none else some kv.1) kv6
    exact Nat.le_trans (show _ ≤ 40 by omega) (by decide)
  have ejk : (kv3.map fun kv => kV kv.1) ++ (kv6.filterMap fun kv => if (valV kv3 kv.1).isSome then none else some kv.1).map kV = (joinKeys kv3 kv6).map kV := by
    unfold joinKeys
    rw [List.map_append, List.map_map]
    rfl
  rw [ejk]
  have er := Ex.new (H := H11) (o := .lst ((joinKeys kv3 kv6).map kV)) hr
  have e12 := (el1.trans e10).trans er
  have m12 := m9.mono e12
  have n312 := n39.mono e12
  have n612 := n69.mono e12
  have ht12 := e12 _ _ hH9
  generalize hH12 : upd H11 r (.lst ((joinKeys kv3 kv6).map kV)) = H12 at er e12 m12 n312 n612 ht12 ⊢
  have hr12 : H12 r = some (.lst ((joinKeys kv3 kv6).map kV)) := by rw [← hH12]; exact upd_same
  refine ⟨r, rfl, ⟨_, sq_of hr12⟩, for_list (xs := (joinKeys kv3 kv6).map kV) (fun i σ' H' => (∃ o6 o7 o8 o9 o10 o11, σ' = [some (.ref p), some (.ref a), some (.ref b), some (.ref dc3), some (.ref dc6), some (.ref tl), o6, o7, o8, o9, o10, o11]) ∧ MeasAt K NS H0 H' p e { s3 with now := fun x => if x ∈ ((joinKeys kv3 kv6).map kS).take i then comb (s2.now x) (s3.now x) else first4 } ∧
    (NowAt K NS H' dc3 kv3 s2.now ∧ NowAt K NS H' dc6 kv6 s3.now) ∧ H' tl = some (.lst ((puts d rs ++ puts d os).map V.str)) ∧ H' r = some (.lst ((joinKeys kv3 kv6).map kV))) ?_ (fun i σ' H' _ z => sq_of z.2.2.2.2) (fun i x σ' H' hi z => ?_) fun σ' H' z => ?_⟩
  · refine ⟨⟨_, _, _, _, _, _, rfl⟩, ?_, ⟨n312, n612⟩, ht12, hr12⟩
    rw [show (fun x => if x ∈ ((joinKeys kv3 kv6).map kS).take 0 then comb (s2.now x) (s3.now x) else first4) = fun _ => first4 from funext fun x => by rw [List.take_zero, if_neg (fun h => by cases h)]]
    exact m12
  · obtain ⟨⟨o6, o7, o8, o9, o10, o11, rfl⟩, mi, ⟨ni3, ni6⟩, hti, hri⟩ := z
    rw [List.getElem?_map] at hi
    obtain ⟨kk, hkk, rfl⟩ := Option.map_eq_some_iff.mp hi
    obtain ⟨y, hy, rfl⟩ := joinKeys_in ni3 ni6 (List.mem_of_getElem? hkk)
    obtain ⟨t1, et1, g1⟩ := told_at T ni3 y
    obtain ⟨t2, et2, g2⟩ := told_at T ni6 y
    obtain ⟨dpi, hpi⟩ := mi.ob
    obtain ⟨kvi, ni⟩ := mi.dc
    refine ⟨_, rfl, dc3, rfl, .inl ⟨kv3, .inl ni3.at_⟩, _, rfl, _, DGet.k (k := Sum.inr y) ni3.at_, ?_⟩
    refine ⟨_, rfl, dc6, rfl, .inl ⟨kv6, .inl ni6.at_⟩, _, rfl, _, DGet.k (k := Sum.inr y) ni6.at_, ?_⟩
    rw [show (valV kv3 (Sum.inr y : Key)).getD (V.ref (He.ga K "AT_FIRST")) = .ref t1 from et1, show (valV kv6 (Sum.inr y : Key)).getD (V.ref (He.ga K "AT_FIRST")) = .ref t2 from et2]
    refine ⟨_, _, rfl, ?_⟩
    have okA := okS2.now y
    have okB := ok6.now y
    dsimp only
    refine q_asg (v := .bl ((s2.now y).2.2.2 && (s3.now y).2.2.2)) ?_ fun H13 e13 => ?_
    · intro H13 e13 Q2 q2
      refine ⟨_, rfl, _, _, _, _, rfl, rfl, ex_t e13 g1, rfl, ?_⟩
      rcases hA : s2.now y with ⟨n1', s1', st1, sr1⟩
      rw [hA] at q2
      cases sr1 with
      | true => exact ⟨_, rfl, _, rfl, _, _, _, _, rfl, rfl, ex_t e13 g2, rfl, q2 _ (Ex.refl _)⟩
      | false => exact ⟨_, rfl, q2 _ (Ex.refl _)⟩
    have g1' := ex_t e13 g1
    have g2' := ex_t e13 g2
    refine ⟨_, rfl, _, _, _, _, rfl, rfl, g1', rfl, _, rfl, _, _, _, _, rfl, rfl, g2', rfl, _, _, rfl, ?_⟩
    refine ⟨_, rfl, _, _, _, _, rfl, rfl, g1', rfl, _, rfl, _, _, _, _, rfl, rfl, g2', rfl, _, _, rfl, ?_⟩
    refine ⟨_, rfl, _, _, _, _, rfl, rfl, g1', rfl, _, rfl, (show 4 ≤ sizeLine by decide), fun tt htt => ?_⟩
    have e14 := e13.trans (Ex.new (o := .tup (mV (comb (s2.now y) (s3.now y)))) htt)
    have m14 := mi.mono e14
    have n14 := ni.mono e14
    refine ⟨_, rfl, p, _, dpi, _, _, rfl, e14 _ _ hpi, T.c_Measure, T.n_Measure_now, mfs_now _ _, _, rfl, e, _, rfl, DPut.k (k := Sum.inr y) n14.at_ (small1000 (by have := n14.few; omega)), ?_⟩
    have m15 := m14.putNow (x := y) (q := comb (s2.now y) (s3.now y)) n14 hy (SqT.of upd_same) (comb_ok okA okB)
    have kk' : ((joinKeys kv3 kv6).map kS)[i]? = some y := by rw [List.getElem?_map, hkk]; rfl
    refine ⟨⟨_, _, _, _, _, _, rfl⟩, ?_, ⟨(ni3.mono e14).wr n14.at_ (fun _ z => nomatch z) (fun _ _ z => nomatch z) e3e.symm, (ni6.mono e14).wr n14.at_ (fun _ z => nomatch z) (fun _ _ z => nomatch z) e6e.symm⟩, ?_, ?_⟩
    · rw [take_snoc kk', setN_snoc]
      exact m15
    · rw [upd_ne (ne_of (e14 _ _ hti) n14.at_ (fun z => nomatch z))]
      exact e14 _ _ hti
    · rw [upd_ne (ne_of (e14 _ _ hri) n14.at_ (fun z => nomatch z))]
      exact e14 _ _ hri
  · obtain ⟨⟨o6, o7, o8, o9, o10, o11, rfl⟩, mi, ⟨ni3, ni6⟩, hti, hri⟩ := z
    rw [List.length_map, show (joinKeys kv3 kv6).length = ((joinKeys kv3 kv6).map kS).length from (List.length_map _).symm, List.take_length,
      show (fun x => if x ∈ (joinKeys kv3 kv6).map kS then comb (s2.now x) (s3.now x) else first4) = fun x => comb (s2.now x) (s3.now x) from funext fun x => by
        by_cases q : x ∈ (joinKeys kv3 kv6).map kS
        · rw [if_pos q]
        · rw [if_neg q]
          have nk : (Sum.inr x : Key) ∉ joinKeys kv3 kv6 := fun z => q (List.mem_map.mpr ⟨_, z, rfl⟩)
          obtain ⟨z1, z2⟩ := joinKeys_all nk
          rw [ni3.no x z1, ni6.no x z2]
          rfl] at mi
    have okC : ∀ x, (comb (s2.now x) (s3.now x)).ok := fun x => comb_ok (okS2.now x) (ok6.now x)
    refine ⟨_, rfl, tl, rfl, ⟨_, sq_of hti⟩, for_list (xs := (puts d rs ++ puts d os).map V.str) (fun i σ' H' => (∃ o6 o7 o8 o9 o10 o11, σ' = [some (.ref p), some (.ref a), some (.ref b), some (.ref dc3), some (.ref dc6), some (.ref tl), o6, o7, o8, o9, o10, o11]) ∧
      MeasAt K NS H0 H' p e { s3 with now := fun x => if x ∈ (puts d rs ++ puts d os).take i then unst (comb (s2.now x) (s3.now x)) else comb (s2.now x) (s3.now x) } ∧ H' tl = some (.lst ((puts d rs ++ puts d os).map V.str))) ?_ (fun i σ' H' _ z => sq_of z.2.2) (fun i x σ' H' hi z => ?_) fun σ' H' z => ?_⟩
    · exact ⟨⟨_, _, _, _, _, _, rfl⟩, mi, hti⟩
    · obtain ⟨⟨o6, o7, o8, o9, o10, o11, rfl⟩, mi, hti⟩ := z
      rw [List.getElem?_map] at hi
      obtain ⟨y, hy, rfl⟩ := Option.map_eq_some_iff.mp hi
      have hyN := nin y (List.mem_of_getElem? hy)
      obtain ⟨dpi, hpi⟩ := mi.ob
      obtain ⟨kvi, ni⟩ := mi.dc
      obtain ⟨t1, et1, g1⟩ := told_at T ni y
      refine ⟨_, rfl, p, dpi, _, rfl, hpi, (by kernel_rfl), _, rfl, p, dpi, e, y, kvi, _, rfl, hpi, ni.at_, ?_⟩
      rw [et1]
      have hM : ∃ M : M4, SqT K H' t1 (mV M) ∧ [V.int M.1, V.int M.2.1, V.bl false, V.bl M.2.2.2] = mV (unst (comb (s2.now y) (s3.now y))) := ⟨_, g1, by dsimp only; split <;> rfl⟩
      obtain ⟨M, g1, eM⟩ := hM
      refine ⟨_, rfl, _, _, _, _, rfl, rfl, g1, rfl, _, rfl, _, _, _, _, rfl, rfl, g1, rfl, _, rfl, _, _, _, _, rfl, rfl, g1, rfl, (show 4 ≤ sizeLine by decide), fun tt htt => ?_⟩
      rw [eM]
      have e14 := Ex.new (H := H') (o := .tup (mV (unst (comb (s2.now y) (s3.now y))))) htt
      have m14 := mi.mono e14
      have n14 := ni.mono e14
      refine ⟨_, rfl, p, _, dpi, _, _, rfl, e14 _ _ hpi, T.c_Measure, T.n_Measure_now, mfs_now _ _, _, rfl, e, _, rfl, DPut.k (k := Sum.inr y) n14.at_ (small1000 (by have := n14.few; omega)), ?_⟩
      have m15 := m14.putNow (x := y) (q := unst (comb (s2.now y) (s3.now y))) n14 hyN (SqT.of upd_same) (unst_ok (okC y))
      refine ⟨⟨_, _, _, _, _, _, rfl⟩, ?_, ?_⟩
      · rw [take_snoc hy, setN_snoc]
        exact m15
      · rw [upd_ne (ne_of (e14 _ _ hti) n14.at_ (fun z => nomatch z))]
        exact e14 _ _ hti
    · obtain ⟨⟨o6, o7, o8, o9, o10, o11, rfl⟩, mi, hti⟩ := z
      rw [List.length_map, List.take_length] at mi
      exact k' s2 s3 es2 es3 e H' mi
end
end E97
set_option Elab.async false
set_option linter.all false
set_option maxRecDepth 100000
set_option maxHeartbeats 4000000
/-! P5: go and branch at all depths, measures -/
namespace E97
open PySem PySem.Spec PyProof.Rows L2 Evl
/-- a program -/
structure ProgAt (K : PySem.W.Frag) (NS : List Str) (d : Nat) (H : Hp) (pr : Addr) (rs : List (Rw d)) : Prop where
  ob : ∃ (dx ra fl li nm : Addr) (ws zs : List V), H pr = some (.ins (C_Program K) dx [("rows", .ref ra), ("flat", .ref fl), ("lines", .ref li), ("names", .ref nm)]) ∧ (SqT K H ra ws ∧ RowsAt K NS d H ws rs) ∧ H fl = some (.lst zs) ∧ zs.length ≤ 100000
  wf : ∀ r ∈ rs, Rw.wf NS d r
  few : rs.length ≤ 24
  deep : d ≤ 3
  nm : NS.length ≤ 20
theorem ProgAt.mono {K : PySem.W.Frag} {NS : List Str} {d : Nat} {H H' : Hp} {pr : Addr} {rs : List (Rw d)} (e : Ex H H') (h : ProgAt K NS d H pr rs) : ProgAt K NS d H' pr rs :=
  ⟨let ⟨dx, ra, fl, li, nm, ws, zs, h1, ⟨h2, h3⟩, h4, h5⟩ := h.ob; ⟨dx, ra, fl, li, nm, ws, zs, e _ _ h1, ⟨ex_t e h2, RowsAt.mono e h3⟩, e _ _ h4, h5⟩, h.wf, h.few, h.deep, h.nm⟩
def lookO : Option PT → MS → MS
  | none, s => s
  | some t, s => lookM t s
def TestO (K : PySem.W.Frag) (NS : List Str) (H : Hp) (v : V) : Option PT → Prop
  | none => v = .non
  | some t => TestAt K NS H v t ∧ t.wf NS 4
def sp_measures (K : PySem.W.Frag) (NS : List Str) : SP0 := fun vs H Q => ∃ (d : Nat) (pr : Addr) (tv : V) (rs : List (Rw d)) (o : Option PT), vs = [.ref pr, tv] ∧ ProgAt K NS d H pr rs ∧ TestO K NS H tv o ∧
  ∀ q H', H q = none → Ex H H' → H' q = some (.tup [.int (lookO o (goM d rs ms0)).long, .int (lookO o (goM d rs ms0)).wide, .int (lookO o (goM d rs ms0)).per]) → Q (.ref q) H'
section
variable {P : Program} {w : World} {K : PySem.W.Frag} {mg : Str → Option Value} {base : Heap} {NS : List Str}
theorem ok_Measure_go (T : Txt w K mg) : ∀ n, FR P w K mg base (2 * n + 20) (a_Measure_go K) (sp_Measure_go K NS n)
  | 0 => FR.never fun vs H Q ⟨d, p, dc, ra, ws, rs, H0, s, hn, _⟩ => nomatch hn
  | n + 1 => go_step T n (ok_Measure_go T n) (branch_step T n (ok_Measure_look T 5) (ok_flat_rows T n) (ok_Measure_go T n))
theorem FR.any {f : Addr} {k : Nat} {sp : Nat → SP0} {m : Nat} (h : ∀ n, n ≤ m → FR P w K mg base k f (sp n)) : FR P w K mg base k f (fun vs H Q => ∃ n, n ≤ m ∧ sp n vs H Q) := by
  intro A outer s H us vs Q E hr e0 r hs
  obtain ⟨n, hn, hs⟩ := hs
  exact h n hn A outer s H us vs Q E hr e0 r hs
theorem okF_measures (T : Txt w K mg) (GO : FR P w K mg base 28 (a_Measure_go K) (fun vs H Q => ∃ n, n ≤ 4 ∧ sp_Measure_go K NS n vs H Q)) (GL : FR P w K mg base 9 (a_Measure_look K) (sp_Measure_look K NS 5)) {fd : FuncData} {dvs : List V} {kws : List (Str × V)} {x qual : Str} (F : FunD K x qual (defArgs s_measures) (defBody s_measures) (defScope s_measures) dvs kws (a_measures K) fd) : FnOk P w K mg base CX0 (30) (a_measures K) fd ["program", "test"] (fun vs H Q _ => (sp_measures K NS) vs H Q) := by
  refine mkOk F sc_measures (fun vs H Q h => by obtain ⟨d, pr, tv, rs, o, rfl, hpr, hto, k⟩ := h; rfl) fun cdv A outer s H vs Q E hr h => ?_
  obtain ⟨d, pr, tv, rs, o, rfl, hpr, hto, k⟩ := h
  refine ⟨_, (pss_cons (ps_set (i := 2) sc_measures.nd rfl (Or.inl rfl) (pe_makeF0 T.k_Measure (ok_Measure_init (K := K) (NS := NS) T) (hr.mono (by omega)) (by rfl) T.g_Measure))
  (pss_cons (ps_expr (pe_methF (pv 2) T.c_Measure T.m_Measure_go (GO) (hr.mono (by omega)) (pa_cons (kfld (K := K) rfl (pv 0) rfl) pa_nil)))
  (pss_cons (ps_if (pt_cmpR op_notN (pv 1) pe_non (nomark _)) (pss_one (ps_expr (pe_methF (pv 2) T.c_Measure T.m_Measure_look (GL) (hr.mono (by omega)) (pa_cons (pv 1) pa_nil)))) pss_nil)
  (pss_one (ps_ret (pe_tup (pa_cons (kfld (K := K) rfl (pv 2) rfl) (pa_cons (kfld (K := K) rfl (pv 2) rfl) (pa_cons (kfld (K := K) rfl (pv 2) rfl) pa_nil))))))))), ?_⟩
  obtain ⟨⟨dx, ra, fl, li, nm, ws, zs, hp, ⟨hra, hrs⟩, hfl, hz⟩, wf, few, deep, hnm⟩ := hpr
  intro x dy hx hdy hne
  have e0 : Ex H (upd (upd H dy (.own x)) x (.ins (C_Measure K) dy [])) := (Ex.new hdy).trans (Ex.new (by rw [upd_ne hne.symm]; exact hx))
  refine ⟨x, dy, H, rfl, e0, hx, upd_same, fun dc H1 m1 => ⟨rfl, ?_⟩⟩
  obtain ⟨dp1, hp1⟩ := m1.ob
  refine ⟨_, rfl, x, dp1, _, rfl, hp1, (by kernel_rfl), _, rfl, pr, _, dx, _, .ref ra, rfl, m1.ex _ _ hp, T.c_Program, T.n_Program_rows, (by kernel_rfl), d + 1, by omega, d, x, dc, ra, ws, rs, H, ms0, rfl, rfl, m1, ⟨hra, hrs, wf, few, deep, hnm⟩, fun dc2 H2 m2 => ?_⟩
  have fin : ∀ (s : MS) (H3 : Hp), MeasAt K NS H H3 x dc2 s → s = lookO o (goM d rs ms0) → tRet (tTup (tCons (tFld K (tVar 2) "longest") (tCons (tFld K (tVar 2) "widest") (tCons (tFld K (tVar 2) "period") tNil)))) { nx := fun _ H' => Q V.non H', rt := Q } [some (.ref pr), some tv, some (.ref x)] H3 := fun s H3 m3 es => by
    obtain ⟨dp3, hp3⟩ := m3.ob
    refine ⟨_, rfl, x, _, dp3, _, _, rfl, hp3, T.c_Measure, T.n_Measure_longest, mfs_long _ _, _, rfl, x, _, dp3, _, _, rfl, hp3, T.c_Measure, T.n_Measure_widest, mfs_wide _ _, _, rfl, x, _, dp3, _, _, rfl, hp3, T.c_Measure, T.n_Measure_period, mfs_per _ _, (show 3 ≤ sizeLine by decide), fun q hq => ?_⟩
    subst es
    exact k q _ (fresh_back m3.ex hq) (m3.ex.trans (Ex.new hq)) upd_same
  cases o with
  | none =>
    cases hto
    exact ⟨_, rfl, rfl, _, rfl, fin _ H2 m2 rfl⟩
  | some t =>
    obtain ⟨ht, wt⟩ := hto
    obtain ⟨ta, eta⟩ : ∃ ta, tv = .ref ta := by
      cases t with
      | ask word ns => obtain ⟨a, _, _, _, _, e, _⟩ := ht; exact ⟨a, e⟩
      | not t => obtain ⟨a, _, _, _, _, _, e, _⟩ := ht; exact ⟨a, e⟩
    subst eta
    obtain ⟨dp2, hp2⟩ := m2.ob
    refine ⟨_, rfl, rfl, _, rfl, _, rfl, x, dp2, _, rfl, hp2, (by kernel_rfl), _, rfl, 4, x, dc2, _, t, H, _, rfl, rfl, m2, ⟨ht, wt⟩, fun H3 m3 => fin _ H3 m3 rfl⟩
def spM1 (K : PySem.W.Frag) (NS : List Str) : SP0 := fun vs H Q => sp_measures K NS (vs ++ [.non]) H Q
theorem go_any (T : Txt w K mg) : FR P w K mg base 28 (a_Measure_go K) (fun vs H Q => ∃ n, n ≤ 4 ∧ sp_Measure_go K NS n vs H Q) := FR.any fun n hn => (ok_Measure_go T n).mono (by omega)
theorem ok_measures (T : Txt w K mg) : FR P w K mg base 30 (a_measures K) (spM1 K NS) := by
  obtain ⟨fd, F⟩ := T.d_measures
  refine okFr (dvs := [.non]) (okF_measures T (go_any T) (ok_Measure_look T 5) F) (F.binds0 1 (fun z => nomatch z) rfl fun D doc pm an cdv ct us ks l1 l2 => ?_)
  obtain ⟨u, rfl⟩ := List.length_eq_one_iff.mp l1
  obtain ⟨z, rfl⟩ := List.length_eq_one_iff.mp l2
  exact ⟨_, _, _, _, _, _, rfl, rfl, rfl⟩
theorem okK_measures (T : Txt w K mg) : FRK P w K mg base 30 (a_measures K) 1 ["test"] (sp_measures K NS) := by
  obtain ⟨fd, F⟩ := T.d_measures
  obtain ⟨mv, B⟩ := F.kbinds0 (ps := ["program", "test"]) 1 ["test"] [] (fun vs _ zs => vs ++ zs) (fun z => nomatch z) (fun q hq => by cases hq) (fun r1 _ r2 => r1.append r2) (fun D doc pm an cdv ct us mv ws l1 l2 l3 => by
    obtain ⟨u, rfl⟩ := List.length_eq_one_iff.mp l1
    obtain ⟨z, rfl⟩ := List.length_eq_one_iff.mp l3
    exact rfl)
  exact ⟨fd, _, _, okF_measures T (go_any T) (ok_Measure_look T 5) F, B⟩
end
end E97
set_option Elab.async false
set_option linter.all false
set_option maxRecDepth 100000
set_option maxHeartbeats 4000000
/-! E97I: the plain law: what the mirror of the measures keeps. -/
namespace E97
open PySem PySem.Spec PyProof.Rows L2 Evl
structure Up (s s' : MS) : Prop where
  ok : s'.ok
  per : s.per ≤ s'.per
  long : s.long ≤ s'.long
  wide : s.wide ≤ s'.wide
theorem Up.refl {s : MS} (h : s.ok) : Up s s := ⟨h, Int.le_refl _, Int.le_refl _, Int.le_refl _⟩
theorem Up.trans {a b c : MS} (h : Up a b) (h2 : Up b c) : Up a c := ⟨h2.ok, Int.le_trans h.per h2.per, Int.le_trans h.long h2.long, Int.le_trans h.wide h2.wide⟩
theorem cap_ge {a b : Int} (h : a ≤ b) (h2 : a ≤ 1000000) : a ≤ cap b := by
  unfold cap
  split <;> omega
theorem ms0_ok : ms0.ok := ⟨fun _ => first4_ok, by decide, by decide, by decide⟩
theorem up_times {s : MS} {f : Int} (h : s.ok) (hf : 1 ≤ f) : Up s (s.times f) := by
  refine ⟨times_ok h hf, cap_ge ?_ h.per.2, Int.le_refl _, Int.le_refl _⟩
  have := Int.mul_le_mul_of_nonneg_left hf (show 0 ≤ s.per by have := h.per.1; omega)
  omega
theorem up_timesO {s : MS} {o : Option Int} (h : s.ok) (hf : ∀ f, o = some f → 1 ≤ f) : Up s (s.timesO o) := by
  cases o with
  | none => exact Up.refl h
  | some f => exact up_times h (hf f rfl)
theorem meas_f {NS : List Str} {g : PutG} {s : MS} (wf : g.wf NS) (h : s.ok) : ∀ f, (meas g s).2 = some f → 1 ≤ f := by
  intro f e
  cases g with
  | figs ks => cases e
  | num k => cases e
  | base => cases e
  | pow x k =>
    have e : (if (s.now x).2.2.1 = false ∧ 1 < k then some (pw s.per (k - 1)) else none) = some f := e
    split at e
    · cases e; exact pw_pos _ _
    · cases e
  | one d x => cases e
  | kone d k x => cases e
  | two d x y =>
    have e : (ofTwo d (s.now x) (s.now y) s.per).2 = some f := e
    have hm := moreBy_ok (a := s.now x) (h.now y)
    have ha := fA_ok (h.now x) (h.now y)
    unfold ofTwo at e
    split at e
    · cases e
    split at e
    · dsimp only at e
      split at e
      · cases e; exact h.per.1
      · cases e
    split at e
    · cases e
    split at e
    · cases e; exact hm.1
    split at e
    · cases e; exact hm.1
    · dsimp only at e
      split at e
      · cases e; exact ha.1
      · cases e
theorem up_note {NS : List Str} {x : Str} {g : PutG} {s : MS} (wf : g.wf NS) (h : s.ok) : Up s (noteM x g s) := by
  have hp := meas_pos wf h
  have ht := up_timesO h (meas_f wf h)
  have e1 : (cap (meas g s).1.1, cap (meas g s).1.2, isSteady g s, isStraight g s) = (cap (meas g s).1.1, cap (meas g s).1.2, isSteady g s, isStraight g s) := rfl
  have m4 : M4.ok (cap (meas g s).1.1, cap (meas g s).1.2, isSteady g s, isStraight g s) := ⟨⟨cap_pos hp.1, cap_le _⟩, cap_pos hp.2, cap_le _⟩
  refine ⟨⟨fun y => ?_, ht.ok.per, ⟨Int.le_trans h.long.1 (gr_l _ _), gr_le h.long.2 (cap_le _)⟩, Int.le_trans h.wide.1 (gr_l _ _), gr_le h.wide.2 (cap_le _)⟩, ht.per, gr_l _ _, gr_l _ _⟩
  show (setN s.now x _ y).ok
  unfold setN
  split
  · exact m4
  · exact h.now y
theorem up_look : ∀ {t : PT} {s : MS}, s.ok → Up s (lookM t s)
  | .not t, s, h => up_look (t := t) h
  | .ask word ns, s, h => by
    show Up s (if word = "divides" then _ else s)
    split
    · exact up_times h (moreBy_ok (h.now _)).1
    · exact Up.refl h
theorem up_branch {t : PT} {g1 g2 : MS → MS} {turned : List Str} {s : MS} (h : s.ok) (h1 : ∀ s, MS.ok s → Up s (g1 s)) (h2 : ∀ s, MS.ok s → Up s (g2 s)) : Up s (branchM t g1 g2 turned s) := by
  have u1 := up_look (t := t) h
  have u2 := h1 _ u1.ok
  have o3 : MS.ok { (g1 (lookM t s)) with now := (lookM t s).now } := ⟨u1.ok.now, u2.ok.per, u2.ok.long, u2.ok.wide⟩
  have u3 := h2 _ o3
  refine ⟨⟨fun x => ?_, u3.ok.per, u3.ok.long, u3.ok.wide⟩, Int.le_trans u1.per (Int.le_trans u2.per u3.per), Int.le_trans u1.long (Int.le_trans u2.long u3.long), Int.le_trans u1.wide (Int.le_trans u2.wide u3.wide)⟩
  show M4.ok (if x ∈ turned then _ else _)
  split
  · exact unst_ok (comb_ok (u2.ok.now x) (u3.ok.now x))
  · exact comb_ok (u2.ok.now x) (u3.ok.now x)
theorem up_times_n {f : MS → MS} (hf : ∀ s, MS.ok s → Up s (f s)) : ∀ (n : Nat) (s : MS), s.ok → Up s (times f n s)
  | 0, s, h => Up.refl h
  | n + 1, s, h => (hf s h).trans (up_times_n hf n (f s) (hf s h).ok)
theorem up_go {NS : List Str} : ∀ (d : Nat) (rs : List (Rw d)) (s : MS), (∀ r ∈ rs, Rw.wf NS d r) → s.ok → Up s (goM d rs s)
  | 0, _, s, _, h => Up.refl h
  | d + 1, [], s, _, h => Up.refl h
  | d + 1, r :: rs, s, wf, h => by
    show Up s (goM (d + 1) rs (stepM d (goM d) r s))
    have w0 := wf r List.mem_cons_self
    have u : Up s (stepM d (goM d) r s) := by
      cases r with
      | put x g => exact up_note w0.2 h
      | stop => exact Up.refl h
      | times n q => exact up_times_n (fun s hs => up_go d q s w0.2.2 hs) n s h
      | ife t q o => exact up_branch h (fun s hs => up_go d q s w0.2.1.2 hs) (fun s hs => up_go d o s w0.2.2.2 hs)
    exact u.trans (up_go (d + 1) rs _ (fun r hr => wf r (List.mem_cons_of_mem _ hr)) u.ok)
/-- what measures tells -/
def tri (s : MS) : Int × Int × Int := (s.long, s.wide, s.per)
theorem goM_app {d : Nat} (rs os : List (Rw (d + 1))) (s : MS) : goM (d + 1) (rs ++ os) s = goM (d + 1) os (goM (d + 1) rs s) := List.foldl_append
theorem goM_twice {d : Nat} (rs : List (Rw (d + 1))) (s : MS) : goM (d + 2) [(RF.times 2 rs : RF (Rw (d + 1)))] s = goM (d + 1) (rs ++ rs) s := by
  rw [goM_app]
  rfl
theorem goM_zero {d : Nat} (rs : List (Rw (d + 1))) : goM (d + 2) [(RF.times 0 rs : RF (Rw (d + 1)))] ms0 = ms0 := rfl
theorem goM_block {d : Nat} (rs : List (Rw (d + 1))) (x y : Str) : tri (goM (d + 2) [(RF.ife (.ask "same" [x, y]) rs [] : RF (Rw (d + 1)))] ms0) = tri (goM (d + 1) rs ms0) := rfl
theorem lookM_not (t : PT) (s : MS) : lookM (.not t) s = lookM t s := rfl
theorem goM_not {d : Nat} (t : PT) (rs os : List (Rw (d + 1))) (s : MS) : goM (d + 2) [(RF.ife (.not t) rs os : RF (Rw (d + 1)))] s = goM (d + 2) [(RF.ife t rs os : RF (Rw (d + 1)))] s := rfl
theorem goM_rest {d : Nat} (rs : List (Rw (d + 1))) (x y : Str) : (lookM (.ask "divides" [x, y]) (goM (d + 1) rs ms0)).per = (goM (d + 1) (rs ++ ([(RF.put x (.two "rest" y x) : RF (Rw d))] : List (Rw (d + 1)))) ms0).per := by
  rw [goM_app]
  generalize goM (d + 1) rs ms0 = s
  have e : (ofTwo "rest" (s.now y) (s.now x) s.per).2 = some (moreBy (s.now y) (s.now x)) := by
    unfold ofTwo
    rw [if_neg (by decide +kernel), if_neg (by decide +kernel), if_neg (by decide +kernel), if_neg (by decide +kernel), if_pos rfl]
  show (if (Str.ofString "divides") = "divides" then s.times (moreBy (s.now y) (s.now x)) else s : MS).per = (s.timesO (ofTwo "rest" (s.now y) (s.now x) s.per).2).per
  rw [if_pos rfl, e]
  rfl
end E97
set_option Elab.async false
set_option linter.all false
set_option maxRecDepth 100000
set_option maxHeartbeats 4000000
/-! P6: rows: names, what is given -/
namespace E97
open PySem PySem.Spec PyProof.Rows L2 Evl
def sp_is_name : SP0 := fun vs H Q => ∃ x : Str, vs = [.str x] ∧ isNm x ∧ ∀ H', Ex H H' → Q (.bl true) H'
def sp_is_deed : SP0 := fun vs H Q => ∃ x : Str, vs = [.str x] ∧ Q (.bl (decide (x = "figures") || (tabSIGNS.lookup x).isSome || (tabPLAIN.lookup x).isSome)) H
def sp_are_given (K : PySem.W.Frag) (NS : List Str) : SP0 := fun vs H Q => ∃ (a : Addr) (g : PutG), vs = [.str g.deed, .ref a] ∧ SqT K H a g.given ∧ g.wf NS ∧ (∀ x ∈ NS, isNm x) ∧ ∀ H', Ex H H' → Q (.bl true) H'
section
variable {P : Program} {w : World} {K : PySem.W.Frag} {mg : Str → Option Value} {base : Heap} {NS : List Str}
theorem iteNI {i j : Int} {A B : Prop} (h1 : ¬ i = j → A) (h2 : i = j → B) : if (!decide (V.int i = V.int j)) = true then A else B := by
  by_cases c : i = j
  · rw [show decide (V.int i = V.int j) = true from decide_eq_true (congrArg V.int c), if_neg (by decide)]
    exact h2 c
  · rw [show decide (V.int i = V.int j) = false from decide_eq_false (fun z => c (V.int.inj z)), if_pos (by decide)]
    exact h1 c
theorem iteNS {i j : Str} {A B : Prop} (h1 : ¬ i = j → A) (h2 : i = j → B) : if (!decide (V.str i = V.str j)) = true then A else B := by
  by_cases c : i = j
  · rw [show decide (V.str i = V.str j) = true from decide_eq_true (congrArg V.str c), if_neg (by decide)]
    exact h2 c
  · rw [show decide (V.str i = V.str j) = false from decide_eq_false (fun z => c (V.str.inj z)), if_pos (by decide)]
    exact h1 c
theorem in_signs {c : Nat} (h : 97 ≤ c ∧ c ≤ 122) : c ∈ (Str.ofString "abcdefghijklmnopqrstuvwxyz").cps.toList := by
  have z : (List.range 26).all (fun i => decide ((97 + i) ∈ (Str.ofString "abcdefghijklmnopqrstuvwxyz").cps.toList)) = true := by decide +kernel
  have y := List.all_eq_true.mp z (c - 97) (List.mem_range.mpr (by omega))
  rw [show 97 + (c - 97) = c by omega] at y
  exact of_decide_eq_true y
theorem all_true : ∀ n : Nat, (List.replicate n true).all id = true
  | 0 => rfl
  | n + 1 => all_true n
theorem fm_true (n : Nat) : (List.replicate n (some (V.bl true))).filterMap id = (List.replicate n true).map V.bl := by
  induction n with
  | zero => rfl
  | succ n ih =>
    rw [List.replicate_succ, List.replicate_succ, List.filterMap_cons, ih]
    rfl
theorem rep_get {α : Type} {n i : Nat} {a r : α} (h : (List.replicate n a)[i]? = some r) : r = a := by
  rw [List.getElem?_replicate] at h
  split at h
  · exact (Option.some.inj h).symm
  · cases h
theorem ok_is_name (T : Txt w K mg) : FR P w K mg base 1 (a_is_name K) (sp_is_name) := by
  obtain ⟨fd, F⟩ := T.d_is_name
  obtain ⟨tkMOST_SIGNS, gMOST_SIGNS⟩ := T.i_MOST_SIGNS
  obtain ⟨tkNAME_SIGNS, gNAME_SIGNS⟩ := T.t_NAME_SIGNS
  refine mkR F sc_is_name (fun _ _ _ _ _ _ us hl => match us, hl with | [_], _ => rfl) (fun vs H Q h => by obtain ⟨x, rfl, hx, k⟩ := h; rfl) fun cdv A outer s H vs Q E hr h => ?_
  obtain ⟨x, rfl, hx, k⟩ := h
  refine ⟨_, (pss_cons (ps_if (PW.pt (pw_or (pt_not (pt_val (pe_callB (kcall_isi (K := K) rfl) (by rfl) T.z_isinstance b_isinstance (pa_cons (pv 0) (pa_cons (pe_bltn (v := .ty "str") rfl T.z_str b_str rfl) pa_nil))))) (pw_or1 (pt_not (pt_chain op_le op_le pe_int (pe_callB call_len_str (by rfl) T.z_len b_len (pa_cons (pv 0) pa_nil)) (pe_glob (v := .int 4) rfl gMOST_SIGNS ⟨_, rfl⟩)))))) (pss_one (ps_ret pe_bl)) pss_nil)
  (pss_one (ps_ret (pe_callB (kcr_all (K := K) rfl rfl) (by rfl) T.z_all b_all (pa_cons (pe_lc (own := [("sign", 1)]) rfl sc_is_name.nd (pi_str (pv 0)) (blkOk_by (own := [("sign", 1)]) (N := N_is_name) (sc := defScope s_is_name) (by decide +kernel)) (fun _ _ _ _ _ => (pg_name (i := 1) sc_is_name.nd rfl (Or.inl rfl))) (fun _ _ _ _ _ => pts_nil) (fun _ _ _ _ _ => (pe_cmpR op_in_sign (pv 1) (pe_glob (v := .str "abcdefghijklmnopqrstuvwxyz") rfl gNAME_SIGNS ⟨_, rfl⟩) rfl))) pa_nil))))), ?_⟩
  obtain ⟨⟨h1, h2⟩, h3⟩ := hx
  refine ⟨_, rfl, _, _, _, _, true, rfl, .ty "str", .base (.str x), kit_ty (by decide +kernel), true, rfl, ?_⟩
  have c1 : decide ((1 : Int) ≤ (x.length : Int)) = true := decide_eq_true (show (1 : Int) ≤ (x.cps.size : Int) by omega)
  have c2 : decide ((x.length : Int) ≤ 4) = true := decide_eq_true (show (x.cps.size : Int) ≤ 4 by omega)
  refine ⟨_, rfl, x, rfl, Nat.le_trans h2 (by decide), _, _, rfl, rfl, _, rfl, ?_⟩
  rw [c1]
  refine ⟨_, _, rfl, rfl, _, rfl, ?_⟩
  rw [c2]
  refine ⟨_, rfl, x, rfl, fun D hD => ?_⟩
  refine lc_it walk_str (fun i H' => Ex H H' ∧ H' D = some (.lst (((List.replicate x.cps.size (some (V.bl true))).take i).filterMap id))) ⟨Ex.new hD, upd_same⟩ (fun _ _ _ _ => trivial) (fun i v H1 H' hi p y => ?_) fun H' p => ?_
  · obtain ⟨rfl, c, hc, rfl⟩ := y
    have hr : (List.replicate x.cps.size (some (V.bl true)))[i]? = some (some (V.bl true)) := by rw [List.getElem?_replicate, if_pos hi]
    refine lc_turn (r := some (V.bl true)) ?_ (Ex.refl H) hD p.1 p.2 (rs_len (by rw [List.length_replicate]; omega)) fun H3 e3 h3 => ⟨e3, by rw [take_rs hr]; exact h3⟩
    intro H1 e1 R kR
    have hin : decide (c ∈ (Str.ofString "abcdefghijklmnopqrstuvwxyz").cps.toList) = true := decide_eq_true (in_signs (h3 c (Array.mem_toList_iff.mpr (Array.mem_of_getElem? hc))))
    refine ⟨rfl, _, rfl, c, _, rfl, rfl, ?_⟩
    rw [hin]
    exact kR H1 (Ex.refl H1)
  · obtain ⟨e, hH⟩ := p
    rw [List.take_of_length_le (by rw [List.length_replicate]; exact Nat.le_refl _), fm_true] at hH
    refine ⟨D, List.replicate x.cps.size true, rfl, sq_of hH, ?_⟩
    rw [all_true]
    exact k H' e
theorem ok_is_deed (T : Txt w K mg) : FR P w K mg base 1 (a_is_deed K) (sp_is_deed) := by
  obtain ⟨fd, F⟩ := T.d_is_deed
  refine mkR F sc_is_deed (fun _ _ _ _ _ _ us hl => match us, hl with | [_], _ => rfl) (fun vs H Q h => by obtain ⟨x, rfl, k⟩ := h; rfl) fun cdv A outer s H vs Q E hr h => ?_
  obtain ⟨x, rfl, k⟩ := h
  refine ⟨_, (pss_one (ps_ret (pe_and (pe_callB (kcall_isi (K := K) rfl) (by rfl) T.z_isinstance b_isinstance (pa_cons (pv 0) (pa_cons (pe_bltn (v := .ty "str") rfl T.z_str b_str rfl) pa_nil))) (pe_one (pe_or (pe_cmpR op_eq (pv 0) pe_str (nomark _)) (pe_or (pe_cmpR (op_inKD (K := K) (w := w) rfl rfl) (pv 0) (pe_glob (v := .ref _) rfl T.g_SIGNS rfl) (by rfl)) (pe_one (pe_cmpR (op_inKD (K := K) (w := w) rfl rfl) (pv 0) (pe_glob (v := .ref _) rfl T.g_PLAIN rfl) (by rfl))))))))), ?_⟩
  refine ⟨_, rfl, _, _, _, _, true, rfl, .ty "str", .base (.str x), kit_ty (by decide +kernel), true, rfl, ?_⟩
  refine ⟨_, rfl, rfl, _, rfl, ?_⟩
  refine iteS (fun c => ?_) (fun c => ?_)
  · rw [show decide (x = Str.ofString "figures") = true from decide_eq_true c] at k
    exact k
  · rw [show decide (x = Str.ofString "figures") = false from decide_eq_false c] at k
    refine ⟨_, rfl, x, _, _, rfl, rfl, kt_SIGNS T, _, rfl, ?_⟩
    rw [Bool.false_or] at k
    cases c2 : (tabSIGNS.lookup x).isSome with
    | true =>
      rw [c2] at k
      exact k
    | false =>
      rw [c2, Bool.false_or] at k
      exact ⟨_, rfl, x, _, _, rfl, rfl, kt_PLAIN T, k⟩
/-- what kind each given thing has, by the deed -/
def kindsOf (d : Str) : Str := match (tabSIGNS.lookup d).getD ((tabPLAIN.lookup d).getD (.str "")) with
  | .str x => x
  | _ => ""
theorem kinds_ok {g : PutG} (wf : g.wf NS) (h : ¬ g.deed = "figures") : (tabSIGNS.lookup g.deed).getD ((tabPLAIN.lookup g.deed).getD (.str "")) = .str (kindsOf g.deed) ∧ (kindsOf g.deed).cps.size = g.given.length ∧
    ∀ (i : Nat) (c : Nat) (y : V), (kindsOf g.deed).cps[i]? = some c → g.given[i]? = some y → (c = 107 ∧ ∃ k : Int, y = .int k ∧ 0 ≤ k ∧ k < 100) ∨ (c ≠ 107 ∧ ∃ x ∈ NS, y = .str x) := by
  have two : ∀ (p q : Nat) (a b : V), (∀ c y, p = c → a = y → ((c = 107 ∧ ∃ k : Int, y = .int k ∧ 0 ≤ k ∧ k < 100) ∨ (c ≠ 107 ∧ ∃ x ∈ NS, y = .str x))) → (∀ c y, q = c → b = y → ((c = 107 ∧ ∃ k : Int, y = .int k ∧ 0 ≤ k ∧ k < 100) ∨ (c ≠ 107 ∧ ∃ x ∈ NS, y = .str x))) →
      ∀ (i : Nat) (c : Nat) (y : V), (#[p, q] : Array Nat)[i]? = some c → [a, b][i]? = some y → (c = 107 ∧ ∃ k : Int, y = .int k ∧ 0 ≤ k ∧ k < 100) ∨ (c ≠ 107 ∧ ∃ x ∈ NS, y = .str x) := fun p q a b h1 h2 i c y e1 e2 => by
    match i with
    | 0 => exact h1 c y (Option.some.inj e1) (Option.some.inj e2)
    | 1 => exact h2 c y (Option.some.inj e1) (Option.some.inj e2)
    | i + 2 => simp at e2
  have one : ∀ (p : Nat) (a : V), (∀ c y, p = c → a = y → ((c = 107 ∧ ∃ k : Int, y = .int k ∧ 0 ≤ k ∧ k < 100) ∨ (c ≠ 107 ∧ ∃ x ∈ NS, y = .str x))) →
      ∀ (i : Nat) (c : Nat) (y : V), (#[p] : Array Nat)[i]? = some c → [a][i]? = some y → (c = 107 ∧ ∃ k : Int, y = .int k ∧ 0 ≤ k ∧ k < 100) ∨ (c ≠ 107 ∧ ∃ x ∈ NS, y = .str x) := fun p a h1 i c y e1 e2 => by
    match i with
    | 0 => exact h1 c y (Option.some.inj e1) (Option.some.inj e2)
    | i + 1 => simp at e2
  have nk : ∀ (x : Str), x ∈ NS → ∀ (p : Nat), p ≠ 107 → ∀ c y, p = c → V.str x = y → ((c = 107 ∧ ∃ k : Int, y = .int k ∧ 0 ≤ k ∧ k < 100) ∨ (c ≠ 107 ∧ ∃ x ∈ NS, y = .str x)) := fun x hx p hp c y e1 e2 => .inr ⟨e1 ▸ hp, x, hx, e2.symm⟩
  have kk : ∀ (k : Int), (0 ≤ k ∧ k < 100) → ∀ c y, 107 = c → V.int k = y → ((c = 107 ∧ ∃ k : Int, y = .int k ∧ 0 ≤ k ∧ k < 100) ∨ (c ≠ 107 ∧ ∃ x ∈ NS, y = .str x)) := fun k hk c y e1 e2 => .inl ⟨e1.symm, k, e2.symm, hk⟩
  cases g with
  | figs ks => exact absurd rfl h
  | num k => exact ⟨by kernel_rfl, by kernel_rfl, one 107 (.int k) (kk k wf)⟩
  | base => exact ⟨by kernel_rfl, by kernel_rfl, fun i c y e1 e2 => by cases e2⟩
  | pow x k => exact ⟨by kernel_rfl, by kernel_rfl, two 120 107 (.str x) (.int k) (nk x wf.1 120 (by decide)) (kk k wf.2)⟩
  | one d x =>
    obtain ⟨hd, hx⟩ := wf
    have z : ∀ d ∈ oneD, (tabSIGNS.lookup d).getD ((tabPLAIN.lookup d).getD (.str "")) = .str "x" := by decide +kernel
    have e : kindsOf d = "x" := by unfold kindsOf; rw [z d hd]
    refine ⟨by show _ = V.str (kindsOf d); rw [e]; exact z d hd, by show (kindsOf d).cps.size = 1; rw [e]; kernel_rfl, ?_⟩
    show ∀ (i : Nat) (c : Nat) (y : V), (kindsOf d).cps[i]? = some c → _
    rw [e]
    exact one 120 (.str x) (nk x hx 120 (by decide))
  | kone d k x =>
    obtain ⟨hd, hk, hx⟩ := wf
    have z : ∀ d ∈ koneD, (tabSIGNS.lookup d).getD ((tabPLAIN.lookup d).getD (.str "")) = .str "kx" := by decide +kernel
    have e : kindsOf d = "kx" := by unfold kindsOf; rw [z d hd]
    refine ⟨by show _ = V.str (kindsOf d); rw [e]; exact z d hd, by show (kindsOf d).cps.size = 2; rw [e]; kernel_rfl, ?_⟩
    show ∀ (i : Nat) (c : Nat) (y : V), (kindsOf d).cps[i]? = some c → _
    rw [e]
    exact two 107 120 (.int k) (.str x) (kk k hk) (nk x hx 120 (by decide))
  | two d x y =>
    obtain ⟨hd, hx, hy⟩ := wf
    have z : ∀ d ∈ twoD, (tabSIGNS.lookup d).getD ((tabPLAIN.lookup d).getD (.str "")) = .str "xy" := by decide +kernel
    have e : kindsOf d = "xy" := by unfold kindsOf; rw [z d hd]
    refine ⟨by show _ = V.str (kindsOf d); rw [e]; exact z d hd, by show (kindsOf d).cps.size = 2; rw [e]; kernel_rfl, ?_⟩
    show ∀ (i : Nat) (c : Nat) (y : V), (kindsOf d).cps[i]? = some c → _
    rw [e]
    exact two 120 121 (.str x) (.str y) (nk x hx 120 (by decide)) (nk y hy 121 (by decide))
theorem fm_ints (ks : List Int) : (ks.map V.int).length = ks.length := List.length_map _
theorem ok_are_given (T : Txt w K mg) : FR P w K mg base 3 (a_are_given K) (sp_are_given K NS) := by
  obtain ⟨fd, F⟩ := T.d_are_given
  refine mkR F sc_are_given (fun _ _ _ _ _ _ us hl => match us, hl with | [_, _], _ => rfl) (fun vs H Q h => by obtain ⟨a, g, rfl, ha, wf, hNS, k⟩ := h; rfl) fun cdv A outer s H vs Q E hr h => ?_
  obtain ⟨a, g, rfl, ha, wf, hNS, k⟩ := h
  refine ⟨_, (pss_cons (ps_if (pt_cmpR op_eq (pv 0) pe_str (nomark _)) (pss_one (ps_ret (pe_and (pe_cmpR op_gt (pe_callB (kcall_len (K := K) rfl) (by rfl) T.z_len b_len (pa_cons (pv 1) pa_nil)) pe_int (nomark _)) (pe_one (pe_callB (kcr_all (K := K) rfl rfl) (by rfl) T.z_all b_all (pa_cons (pe_lc (own := [("arg", 4)]) rfl sc_are_given.nd (kpi_tup (K := K) rfl (pv 1)) (blkOk_by (own := [("arg", 4)]) (N := N_are_given) (sc := defScope s_are_given) (by decide +kernel)) (fun _ _ _ _ _ => (pg_name (i := 4) sc_are_given.nd rfl (Or.inl rfl))) (fun _ _ _ _ _ => pts_nil) (fun _ _ _ _ _ => (pe_callF (ok_is_number (K := K) T) (hr.mono (by omega)) (by rfl) T.g_is_number T.k_is_number (pa_cons (pv 4) pa_nil)))) pa_nil)))))) pss_nil)
  (pss_cons (ps_set (i := 2) sc_are_given.nd rfl (Or.inl rfl) (pe_kget (K := K) (w := w) rfl rfl (pe_glob (v := .ref _) rfl T.g_SIGNS rfl) (pv 0) (pe_kget (K := K) (w := w) rfl rfl (pe_glob (v := .ref _) rfl T.g_PLAIN rfl) (pv 0) pe_str (by exact ⟨by rfl, by rfl, by rfl, by rfl⟩)) (by exact ⟨by rfl, by rfl, by rfl, by rfl⟩)))
  (pss_cons (ps_if (pt_cmpR op_ne (pe_callB (kcall_len (K := K) rfl) (by rfl) T.z_len b_len (pa_cons (pv 1) pa_nil)) (pe_callB call_len_str (by rfl) T.z_len b_len (pa_cons (pv 2) pa_nil)) (nomark _)) (pss_one (ps_ret pe_bl)) pss_nil)
  (pss_one (ps_ret (pe_callB (kcr_all (K := K) rfl rfl) (by rfl) T.z_all b_all (pa_cons (pe_lc (own := [("kind", 3), ("arg", 4)]) rfl sc_are_given.nd (kpi_zipS (K := K) rfl (by rfl) T.z_zip (pa_cons (pv 2) (pa_cons (pv 1) pa_nil))) (blkOk_by (own := [("kind", 3), ("arg", 4)]) (N := N_are_given) (sc := defScope s_are_given) (by decide +kernel)) (fun _ _ _ _ _ => (kpg_tup (K := K) (n := 2) rfl (by rfl) (pgs_cons (pg_name (i := 3) sc_are_given.nd rfl (Or.inl rfl)) (pgs_cons (pg_name (i := 4) sc_are_given.nd rfl (Or.inl rfl)) pgs_nil)))) (fun _ _ _ _ _ => pts_nil) (fun _ _ _ _ _ => (pe_ifExp (pt_cmpR op_eq (pv 3) pe_str (nomark _)) (pe_callF (ok_is_number (K := K) T) (hr.mono (by omega)) (by rfl) T.g_is_number T.k_is_number (pa_cons (pv 4) pa_nil)) (pe_callF (ok_is_name (K := K) T) (hr.mono (by omega)) (by rfl) T.g_is_name T.k_is_name (pa_cons (pv 4) pa_nil))))) pa_nil))))))), ?_⟩
  have gl := given_few wf
  refine ⟨_, rfl, rfl, _, rfl, ?_⟩
  refine iteS (fun c => ?_) (fun c => ?_)
  · obtain ⟨ks, rfl⟩ := deed_figs wf c
    obtain ⟨⟨w1, w2⟩, w3⟩ := wf
    have ha' : SqT K H a (ks.map V.int) := ha
    refine ⟨_, rfl, _, _, rfl, .inr ha', _, _, rfl, rfl, _, rfl, ?_⟩
    rw [show decide ((0 : Int) < ((ks.map V.int).length : Int)) = true from decide_eq_true (by rw [List.length_map]; omega)]
    refine ev_allN (bs := List.replicate ks.length true) ?_ H (Ex.refl H) Q fun H2 e2 => ?_
    · rw [← fm_true]
      refine el_lcT (List.replicate ks.length (some (V.bl true))) (ev_var rfl) ha' (by rw [List.length_map]; omega) (by rw [List.length_replicate, List.length_map]) fun i x r hi hr => ?_
      cases rep_get hr
      rw [List.getElem?_map] at hi
      obtain ⟨z, hz, rfl⟩ := Option.map_eq_some_iff.mp hi
      intro H1 e1 R kR
      have hz2 := w3 z (List.mem_of_getElem? hz)
      exact ⟨rfl, _, rfl, z, rfl, hz2.1, kR H1 (Ex.refl H1)⟩
    · rw [all_true]
      exact k H2 e2
  · obtain ⟨z1, z2, z3⟩ := kinds_ok wf c
    refine ⟨_, _, rfl, kt_SIGNS T, _, rfl, _, _, rfl, kt_PLAIN T, _, rfl, _, rfl, _, rfl, ?_⟩
    rw [z1]
    have hz : (kindsOf g.deed).cps.size ≤ 6 := by rw [z2]; exact gl
    refine ⟨_, rfl, _, _, rfl, .inr ha, _, rfl, _, rfl, Nat.le_trans hz (by decide), rfl, _, rfl, ?_⟩
    refine iteNI (fun c2 => absurd (show ((g.given.length : Nat) : Int) = ((kindsOf g.deed).cps.size : Nat) by rw [z2]) c2) (fun c2 => ?_)
    refine ⟨_, rfl, _, rfl, kindsOf g.deed, a, g.given, rfl, ha, fun D hD => ?_⟩
    refine lc_it (walk_zipS z2.symm) (fun i H' => Ex H H' ∧ H' D = some (.lst (((List.replicate g.given.length (some (V.bl true))).take i).filterMap id))) ⟨Ex.new hD, upd_same⟩ (fun i H' _ p => ex_t p.1 ha) (fun i v H1 H' hi p y => ?_) fun H' p => ?_
    · obtain ⟨Tp, c, y, rfl, hT, rfl, hc, hy⟩ := y
      have hr : (List.replicate g.given.length (some (V.bl true)))[i]? = some (some (V.bl true)) := by rw [List.getElem?_replicate, if_pos hi]
      have eT := Ex.new (H := H1) (o := .tup [.str ⟨#[c]⟩, y]) hT
      refine ⟨Tp, _, rfl, SqT.of upd_same, rfl, _, _, rfl, _, _, rfl, rfl, rfl, ?_⟩
      have fin : ∀ H2, Ex H1 H2 → ∃ acc, H2 D = some (.lst acc) ∧ acc.length < sizeLine ∧ (fun i H' => Ex H H' ∧ H' D = some (.lst (((List.replicate g.given.length (some (V.bl true))).take i).filterMap id))) (i + 1) (upd H2 D (.lst (acc ++ [.bl true]))) := fun H2 e2 =>
        ⟨_, e2 _ _ p.2, rs_len (by rw [List.length_replicate]; omega), (p.1.trans e2).mut hD, by rw [take_rs hr]; exact upd_same⟩
      rcases z3 i c y hc hy with ⟨rfl, z, rfl, hz0, hz1⟩ | ⟨hc7, x, hx, rfl⟩
      · exact ⟨_, rfl, rfl, _, rfl, _, rfl, z, rfl, hz0, fin _ eT⟩
      · refine ⟨_, rfl, rfl, _, rfl, ?_⟩
        refine iteS (fun c3 => ?_) (fun c3 => ?_)
        · have e := congrArg (fun z : Str => z.cps) c3
          have e2 : (#[c] : Array Nat) = #[107] := e
          have e3 : c = 107 := by simpa using e2
          exact absurd e3 hc7
        · exact ⟨_, rfl, x, rfl, hNS x hx, fun H2 e2 => fin _ (eT.trans e2)⟩
    · obtain ⟨e, hH⟩ := p
      rw [List.take_of_length_le (by rw [List.length_replicate]; exact Nat.le_refl _), fm_true] at hH
      refine ⟨D, List.replicate g.given.length true, rfl, sq_of hH, ?_⟩
      rw [all_true]
      exact k H' e
end
end E97
set_option Elab.async false
set_option linter.all false
set_option maxRecDepth 100000
set_option maxHeartbeats 4000000
/-! P7: rows: what their __init__s share -/
namespace E97
open PySem PySem.Spec PyProof.Rows L2 Evl NdefX
def rm1 (H : Hp) (p : Addr) : Hp := fun b => if b = p then none else H b
theorem rm1_ex (H : Hp) (p : Addr) : Ex (rm1 H p) H := fun a o h => by
  unfold rm1 at h
  split at h
  · cases h
  · exact h
theorem rm1_no (H : Hp) (p : Addr) : rm1 H p p = none := if_pos rfl
theorem rm1_of {H : Hp} {p a : Addr} {o : HO} (h : H a = some o) (h1 : a ≠ p) : rm1 H p a = some o := by
  unfold rm1
  rw [if_neg h1]
  exact h
theorem rm1_sub {H0 H : Hp} {p : Addr} (e : Ex H0 H) (h : H0 p = none) : Ex H0 (rm1 H p) := fun a o ha => rm1_of (e _ _ ha) fun q => by rw [q, h] at ha; cases ha
theorem rm1_T {K : PySem.W.Frag} {H : Hp} {p a C dx : Addr} {fs : List (Str × V)} {xs : List V} (hp : H p = some (.ins C dx fs)) (h : SqT K H a xs) : SqT K (rm1 H p) a xs := by
  rcases h with (h | ⟨o, h⟩) | h
  · exact .inl (.inl (rm1_of h (ne_of h hp (fun z => nomatch z))))
  · exact .inl (.inr ⟨o, rm1_of h (ne_of h hp (fun z => nomatch z))⟩)
  · exact .inr h
theorem rm1_L {K : PySem.W.Frag} {H : Hp} {p a C dx : Addr} {fs : List (Str × V)} {xs : List V} (hp : H p = some (.ins C dx fs)) (h : H a = some (.lst xs)) : rm1 H p a = some (.lst xs) := rm1_of h (ne_of h hp (fun z => nomatch z))
/-- a list or a tuple -/
def SqA (K : PySem.W.Frag) (H : Hp) (a : Addr) (xs : List V) : Prop := H a = some (.lst xs) ∨ SqT K H a xs
theorem SqA.mono {K : PySem.W.Frag} {H H' : Hp} {a : Addr} {xs : List V} (e : Ex H H') (h : SqA K H a xs) : SqA K H' a xs := h.elim (fun z => .inl (e _ _ z)) fun z => .inr (ex_t e z)
def isRowC (K : PySem.W.Frag) (C : Addr) : Prop := C = C_Put K ∨ C = C_Stop K ∨ C = C_If K ∨ C = C_Times K
def sp_Row_init (K : PySem.W.Frag) : SP0 := fun vs H Q => ∃ (p C dx l i u : Addr) (fs : List (Str × V)) (ls vi vu : List V) (H0 : Hp), vs = [.ref p, .ref l, .ref i, .ref u] ∧ (Ex H0 H ∧ H0 p = none ∧ H p = some (.ins C dx fs) ∧ isRowC K C ∧ fs.length ≤ 10) ∧
  (SqA K H0 l ls ∧ SqA K H0 i vi ∧ SqA K H0 u vu) ∧ (ls.length ≤ 100000 ∧ vi.length ≤ 100000 ∧ vu.length ≤ 100000) ∧
  ∀ l' i' u' H', Ex H0 H' → H' p = some (.ins C dx (putF "used" (.ref u') (putF "inner" (.ref i') (putF "lines" (.ref l') fs)))) → SqT K H' l' ls → SqT K H' i' vi → SqT K H' u' vu → Q .non H'
def sp_Test_init (K : PySem.W.Frag) : SP0 := fun vs H Q => ∃ (p C dx u : Addr) (txt : Str) (vu : List V), vs = [.ref p, .str txt, .ref u] ∧ (H p = some (.ins C dx []) ∧ (C = C_Ask K ∨ C = C_Not K)) ∧ SqT K H u vu ∧ Q .non (upd (upd H p (.ins C dx [("text", .str txt)])) p (.ins C dx [("text", .str txt), ("used", .ref u)]))
def sp_Test_str (K : PySem.W.Frag) : SP0 := fun vs H Q => ∃ (p C dx : Addr) (txt : Str) (fs : List (Str × V)), vs = [.ref p] ∧ (H p = some (.ins C dx fs) ∧ (C = C_Ask K ∨ C = C_Not K)) ∧ fs.lookup ("text" : Str) = some (.str txt) ∧ txt.length ≤ 100000 ∧ Q (.str txt) H
def IsRow (K : PySem.W.Frag) (H : Hp) (v : V) : Prop := ∃ (a C dx : Addr) (fs : List (Str × V)), v = .ref a ∧ H a = some (.ins C dx fs) ∧ isRowC K C
def sp_rows_ofL (K : PySem.W.Frag) : SP0 := fun vs H Q => ∃ (a : Addr) (ws : List V), vs = [.ref a] ∧ H a = some (.lst ws) ∧ ws.length ≤ 1000 ∧ (∀ v ∈ ws, IsRow K H v) ∧ ∀ q H', Ex H H' → SqT K H' q ws → Q (.ref q) H'
def sp_rows_ofT (K : PySem.W.Frag) : SP0 := fun vs H Q => ∃ (a : Addr) (ws : List V), vs = [.ref a] ∧ SqT K H a ws ∧ ws.length ≤ 1000 ∧ (∀ v ∈ ws, IsRow K H v) ∧ ∀ q H', Ex H H' → SqT K H' q ws → Q (.ref q) H'
/-- rows with their lines: n lines each at most -/
def LnRow (K : PySem.W.Frag) (H : Hp) (n : Nat) (v : V) : Prop := ∃ (a C dx l : Addr) (fs : List (Str × V)) (ls : List V), v = .ref a ∧ H a = some (.ins C dx fs) ∧ isRowC K C ∧ fs.lookup ("lines" : Str) = some (.ref l) ∧ SqT K H l ls ∧ ls.length ≤ n
def sp_lines_of (K : PySem.W.Frag) : SP0 := fun vs H Q => ∃ (a : Addr) (ws : List V) (n : Nat), vs = [.ref a] ∧ SqT K H a ws ∧ ws.length ≤ 24 ∧ n ≤ 3000 ∧ (∀ v ∈ ws, LnRow K H n v) ∧ ∀ q H' ls, H q = none → Ex H H' → H' q = some (.lst ls) → ls.length ≤ ws.length * n → Q (.ref q) H'
section
variable {P : Program} {w : World} {K : PySem.W.Frag} {mg : Str → Option Value} {base : Heap} {NS : List Str}
theorem tyT {H : Hp} {a : Addr} {xs : List V} (h : SqT K H a xs) : TyX K H (.ref a) (.type "tuple") := by
  rcases h with (h | ⟨o, h⟩) | ⟨o, its, n, h1, h2, _⟩
  · exact .base (.tup h)
  · exact .fTuple h
  · exact .kTuple h1 h2
theorem upd_upd' {H : Hp} {a : Addr} {o u : HO} : upd (upd H a o) a u = upd H a u := funext fun b => by
  by_cases e : b = a
  · rw [e, upd_same, upd_same]
  · rw [upd_ne e, upd_ne e, upd_ne e]
theorem tupX {H : Hp} {a : Addr} {xs : List V} {Q : VK} (h : SqA K H a xs) (k : ∀ q H', Ex H H' → SqT K H' q xs → Q (.ref q) H') : (SqL K H a xs ∧ ∀ l, H l = none → Q (.ref l) (upd H l (.tup xs))) ∨ (SqT K H a xs ∧ Q (.ref a) H) :=
  h.elim (fun z => .inl ⟨SqL.of z, fun l hl => k l _ (Ex.new hl) (SqT.of upd_same)⟩) fun z => .inr ⟨z, k a H (Ex.refl H) z⟩
def FldK (K : PySem.W.Frag) (ta : TE) (f : Str) (nx : L2.St → Hp → Prop) (σ : L2.St) (y : V) (H1 : Hp) : Prop := ta σ H1 fun x H2 => ∃ b C dx fs, x = .ref b ∧ H2 b = some (.ins C dx fs) ∧ Cls K C ∧ NoAttr K C f ∧ fs.length < 1000 ∧ nx σ (upd H2 b (.ins C dx (putF f y fs)))
theorem s_fldT {ta te : TE} {σ : L2.St} {H : Hp} {D : Ends} {f : Str} {a : Addr} {xs : List V} (he : Ev te σ H (.ref a)) (h : SqA K H a xs) (k : ∀ q H1, Ex H H1 → SqT K H1 q xs → FldK K ta f D.nx σ (.ref q) H1) : sFld K ta (tCB (rTupOf K) (tCons te tNil)) f D σ H :=
  he H (Ex.refl H) _ fun H2 e2 => ⟨a, xs, rfl, tupX (Q := FldK K ta f D.nx σ) (h.mono e2) fun q H3 e3 h3 => k q H3 (e2.trans e3) h3⟩
theorem q_fldT {ta te : TE} {σ : L2.St} {H : Hp} {D : Ends} {f : Str} {a : Addr} {xs : List V} {tz : TS} (he : Ev te σ H (.ref a)) (h : SqA K H a xs) (k : ∀ q H1, Ex H H1 → SqT K H1 q xs → FldK K ta f (tz D) σ (.ref q) H1) : tSeq (sFld K ta (tCB (rTupOf K) (tCons te tNil)) f) tz D σ H :=
  s_fldT (D := { D with nx := tz D }) he h k
theorem row_na (T : Txt w K mg) {C : Addr} (h : isRowC K C) : Cls K C ∧ NoAttr K C "lines" ∧ NoAttr K C "inner" ∧ NoAttr K C "used" := by
  rcases h with rfl | rfl | rfl | rfl
  · exact ⟨T.c_Put, T.n_Put_lines, T.n_Put_inner, T.n_Put_used⟩
  · exact ⟨T.c_Stop, T.n_Stop_lines, T.n_Stop_inner, T.n_Stop_used⟩
  · exact ⟨T.c_If, T.n_If_lines, T.n_If_inner, T.n_If_used⟩
  · exact ⟨T.c_Times, T.n_Times_lines, T.n_Times_inner, T.n_Times_used⟩
theorem row_isi (T : Txt w K mg) {C : Addr} (h : isRowC K C) : instB K C = true ∧ kitD K C (.ref (He.ga K "Row")) true = true := by
  rcases h with rfl | rfl | rfl | rfl
  · exact ⟨T.x_inst_Put, T.x_is_Put_Row⟩
  · exact ⟨T.x_inst_Stop, T.x_is_Stop_Row⟩
  · exact ⟨T.x_inst_If, T.x_is_If_Row⟩
  · exact ⟨T.x_inst_Times, T.x_is_Times_Row⟩
theorem putF_len {f : Str} {v : V} : ∀ {fs : List (Str × V)}, (putF f v fs).length ≤ fs.length + 1
  | [] => Nat.le_refl _
  | (g, x) :: r => by
    have ih := putF_len (f := f) (v := v) (fs := r)
    show (if g = f then (g, v) :: r else (g, x) :: putF f v r).length ≤ r.length + 1 + 1
    split
    · rw [List.length_cons]; omega
    · rw [List.length_cons]; omega
theorem ok_Row_init (T : Txt w K mg) : FR P w K mg base 1 (a_Row_init K) (sp_Row_init K) := by
  obtain ⟨fd, F⟩ := T.d_Row_init
  refine mkR F sc_Row_init (fun _ _ _ _ _ _ us hl => match us, hl with | [_, _, _, _], _ => rfl) (fun vs H Q h => by obtain ⟨p, C, dx, l, i, u, fs, ls, vi, vu, H0, rfl, ⟨e0, hp0, hp, hC, hfs⟩, ⟨hl, hi, hu⟩, ⟨n1, n2, n3⟩, k⟩ := h; rfl) fun cdv A outer s H vs Q E hr h => ?_
  obtain ⟨p, C, dx, l, i, u, fs, ls, vi, vu, H0, rfl, ⟨e0, hp0, hp, hC, hfs⟩, ⟨hl, hi, hu⟩, ⟨n1, n2, n3⟩, k⟩ := h
  refine ⟨_, (pss_cons (kps_fld (K := K) rfl (pv 0) (pe_callTy (kcall_tuple (K := K) rfl) (by rfl) T.z_tuple b_tuple (pa_cons (pv 1) pa_nil)) rfl)
  (pss_cons (kps_fld (K := K) rfl (pv 0) (pe_callTy (kcall_tuple (K := K) rfl) (by rfl) T.z_tuple b_tuple (pa_cons (pv 2) pa_nil)) rfl)
  (pss_one (kps_fld (K := K) rfl (pv 0) (pe_callTy (kcall_tuple (K := K) rfl) (by rfl) T.z_tuple b_tuple (pa_cons (pv 3) pa_nil)) rfl)))), ?_⟩
  obtain ⟨cC, a1, a2, a3⟩ := row_na T hC
  refine q_fldT (ev_var rfl) (hl.mono e0) fun l' H1 e1 hl' => ?_
  have hp1 := e1 _ _ hp
  refine ⟨_, rfl, p, C, dx, fs, rfl, hp1, cC, a1, by omega, ?_⟩
  have f1 := putF_len (f := "lines") (v := .ref l') (fs := fs)
  have e1' : Ex H0 (upd H1 p (.ins C dx (putF "lines" (.ref l') fs))) := (e0.trans e1).mut hp0
  have hl1 : SqT K (upd H1 p (.ins C dx (putF "lines" (.ref l') fs))) l' ls := sqT_wr hp1 (fun _ z => nomatch z) (fun _ _ z => nomatch z) hl'
  refine q_fldT (ev_var rfl) (hi.mono e1') fun i' H2 e2 hi' => ?_
  have hp2 := e2 _ _ (upd_same (H := H1) (o := HO.ins C dx (putF "lines" (.ref l') fs)))
  refine ⟨_, rfl, p, C, dx, _, rfl, hp2, cC, a2, by omega, ?_⟩
  have f2 := putF_len (f := "inner") (v := .ref i') (fs := putF "lines" (.ref l') fs)
  have e2' : Ex H0 (upd H2 p (.ins C dx (putF "inner" (.ref i') (putF "lines" (.ref l') fs)))) := (e1'.trans e2).mut hp0
  have hl2 : SqT K (upd H2 p (.ins C dx (putF "inner" (.ref i') (putF "lines" (.ref l') fs)))) l' ls := sqT_wr hp2 (fun _ z => nomatch z) (fun _ _ z => nomatch z) (ex_t e2 hl1)
  have hi2 : SqT K (upd H2 p (.ins C dx (putF "inner" (.ref i') (putF "lines" (.ref l') fs)))) i' vi := sqT_wr hp2 (fun _ z => nomatch z) (fun _ _ z => nomatch z) hi'
  refine s_fldT (ev_var rfl) (hu.mono e2') fun u' H3 e3 hu' => ?_
  have hp3 := e3 _ _ (upd_same (H := H2) (o := HO.ins C dx (putF "inner" (.ref i') (putF "lines" (.ref l') fs))))
  refine ⟨_, rfl, p, C, dx, _, rfl, hp3, cC, a3, by omega, ?_⟩
  exact k l' i' u' _ ((e2'.trans e3).mut hp0) upd_same (sqT_wr hp3 (fun _ z => nomatch z) (fun _ _ z => nomatch z) (ex_t e3 hl2)) (sqT_wr hp3 (fun _ z => nomatch z) (fun _ _ z => nomatch z) (ex_t e3 hi2)) (sqT_wr hp3 (fun _ z => nomatch z) (fun _ _ z => nomatch z) hu')
theorem test_na (T : Txt w K mg) {C : Addr} (h : C = C_Ask K ∨ C = C_Not K) : Cls K C ∧ NoAttr K C "text" ∧ NoAttr K C "used" := by
  rcases h with rfl | rfl
  · exact ⟨T.c_Ask, T.n_Ask_text, T.n_Ask_used⟩
  · exact ⟨T.c_Not, T.n_Not_text, T.n_Not_used⟩
theorem pf_text0 (t : V) : putF "text" t [] = ([("text", t)] : List (Str × V)) := by kernel_rfl
theorem ok_Test_init (T : Txt w K mg) : FR P w K mg base 1 (a_Test_init K) (sp_Test_init K) := by
  obtain ⟨fd, F⟩ := T.d_Test_init
  refine mkR F sc_Test_init (fun _ _ _ _ _ _ us hl => match us, hl with | [_, _, _], _ => rfl) (fun vs H Q h => by obtain ⟨p, C, dx, u, txt, vu, rfl, ⟨hp, hC⟩, hu, k⟩ := h; rfl) fun cdv A outer s H vs Q E hr h => ?_
  obtain ⟨p, C, dx, u, txt, vu, rfl, ⟨hp, hC⟩, hu, k⟩ := h
  refine ⟨_, (pss_cons (kps_fld (K := K) rfl (pv 0) (pv 1) rfl)
  (pss_one (kps_fld (K := K) rfl (pv 0) (pe_callTy (kcall_tuple (K := K) rfl) (by rfl) T.z_tuple b_tuple (pa_cons (pv 2) pa_nil)) rfl))), ?_⟩
  obtain ⟨cC, a1, a2⟩ := test_na T hC
  refine ⟨_, rfl, _, rfl, p, C, dx, [], rfl, hp, cC, a1, (by show 0 < 1000; decide), ?_⟩
  rw [pf_text0]
  have hu1 : SqT K (upd H p (.ins C dx [("text", .str txt)])) u vu := sqT_wr hp (fun _ z => nomatch z) (fun _ _ z => nomatch z) hu
  refine ⟨_, rfl, u, vu, rfl, .inr ⟨hu1, _, rfl, p, C, dx, _, rfl, upd_same, cC, a2, (by show 1 < 1000; decide), ?_⟩⟩
  exact k
theorem ok_Test_str (T : Txt w K mg) : FR P w K mg base 1 (a_Test_str K) (sp_Test_str K) := by
  obtain ⟨fd, F⟩ := T.d_Test_str
  refine mkR F sc_Test_str (fun _ _ _ _ _ _ us hl => match us, hl with | [_], _ => rfl) (fun vs H Q h => by obtain ⟨p, C, dx, txt, fs, rfl, ⟨hp, hC⟩, hl, hz, k⟩ := h; rfl) fun cdv A outer s H vs Q E hr h => ?_
  obtain ⟨p, C, dx, txt, fs, rfl, ⟨hp, hC⟩, hl, hz, k⟩ := h
  refine ⟨_, (pss_one (ps_ret (pe_joined1 (pe_fmt (kfld (K := K) rfl (pv 0) rfl))))), ?_⟩
  obtain ⟨cC, a1, a2⟩ := test_na T hC
  exact ⟨_, rfl, p, C, dx, fs, .str txt, rfl, hp, cC, a1, hl, .inl ⟨txt, rfl, Nat.le_trans hz (by decide), k⟩⟩
theorem isi_lt {H : Hp} {a : Addr} {t : String} {Q : VK} (h : t = "list" ∨ t = "tuple") (ty : TyX K H (.ref a) (.type t)) {tp : Addr} (ht : H tp = some (.tup [.ty "list", .ty "tuple"])) (q : Q (.bl true) H) : rIsiT2 K [.ref a, .ref tp] H Q := by
  refine ⟨.ref a, tp, _, .type t, [.type "list", .type "tuple"], true, rfl, ht, .cons (.ty "list") (.cons (.ty "tuple") .nil), ty, ?_, q⟩
  rcases h with rfl | rfl
  · exact kitAny_cons (b := true) (kit_ty (by decide +kernel)) (fun z => nomatch z) fun _ => rfl
  · exact kitAny_cons (b := false) (kit_ty (by decide +kernel)) (fun _ => kitAny_cons (b := true) (kit_ty (by decide +kernel)) (fun z => nomatch z) fun _ => rfl) (fun z => nomatch z)
theorem allRow {n : Nat} : (List.replicate n true).all id = true := all_true n
theorem ok_rows_ofL (T : Txt w K mg) : FR P w K mg base (0 + 1) (a_rows_of K) (sp_rows_ofL K) := by
  obtain ⟨fd, F⟩ := T.d_rows_of
  refine mkR F sc_rows_of (fun _ _ _ _ _ _ us hl => match us, hl with | [_], _ => rfl) (fun vs H Q h => by obtain ⟨a, ws, rfl, ha, hz, hr, k⟩ := h; rfl) fun cdv A outer s H vs Q E hr h => ?_
  obtain ⟨a, ws, rfl, ha, hz, hr, k⟩ := h
  refine ⟨_, (pss_cons (ps_if (PW.pt (pw_or (pt_not (pt_val (pe_callB (kcall_isiT (K := K) rfl) (by rfl) T.z_isinstance b_isinstance (pa_cons (pv 0) (pa_cons (pe_tup (pa_cons (pe_bltn (v := .ty "list") rfl T.z_list b_list rfl) (pa_cons (pe_bltn (v := .ty "tuple") rfl T.z_tuple b_tuple rfl) pa_nil))) pa_nil))))) (pw_or1 (pt_not (pt_val (pe_callB (kcr_all (K := K) rfl rfl) (by rfl) T.z_all b_all (pa_cons (pe_lc (own := [("row", 1)]) rfl sc_rows_of.nd (kpi_list (K := K) rfl (pv 0)) (blkOk_by (own := [("row", 1)]) (N := N_rows_of) (sc := defScope s_rows_of) (by decide +kernel)) (fun _ _ _ _ _ => (pg_name (i := 1) sc_rows_of.nd rfl (Or.inl rfl))) (fun _ _ _ _ _ => pts_nil) (fun _ _ _ _ _ => (pe_callB (kcall_isi (K := K) rfl) (by rfl) T.z_isinstance b_isinstance (pa_cons (pv 1) (pa_cons (pe_glob (v := .ref _) rfl T.g_Row rfl) pa_nil))))) pa_nil))))))) (pss_one (ps_never)) pss_nil)
  (pss_one (ps_ret (pe_callTy (kcall_tuple (K := K) rfl) (by rfl) T.z_tuple b_tuple (pa_cons (pv 0) pa_nil))))), ?_⟩
  refine ⟨_, rfl, sz2, fun tp htp => ?_⟩
  have e1 := Ex.new (H := H) (o := .tup [.ty "list", .ty "tuple"]) htp
  refine ⟨.ref a, tp, _, .type "list", [.type "list", .type "tuple"], true, rfl, upd_same, .cons (.ty "list") (.cons (.ty "tuple") .nil), .base (.lst (e1 _ _ ha)), kitAny_cons (b := true) (kit_ty (by decide +kernel)) (fun z => nomatch z) fun _ => rfl, true, rfl, ?_⟩
  have al := ev_allN (K := K) (bs := List.replicate ws.length true) (te := tLc (iList K (tVar 0)) (gName 1) tYes (tCB (rIsi K) (tCons (tVar 1) (tCons (tC (V.ref (He.ga K "Row"))) tNil))) [1]) (σ := L2.start N_rows_of [V.ref a]) (H := H) (by
    rw [← fm_true]
    refine el_lcLL (List.replicate ws.length (some (V.bl true))) (ev_var rfl) (sq_of ha) (by omega) List.length_replicate fun i x r hi hrr => ?_
    cases rep_get hrr
    obtain ⟨b, C, dx, fs, rfl, hb, hC⟩ := hr x (List.mem_of_getElem? hi)
    obtain ⟨i1, i2⟩ := row_isi T hC
    intro H1 e1 R kR
    exact ⟨rfl, _, rfl, _, _, _, _, true, rfl, .own _, inst_ty i1 (row_na T hC).1 (e1 _ _ hb), of_decide_eq_true i2, kR H1 (Ex.refl H1)⟩)
  refine al _ e1 _ fun H2 e2 => ?_
  rw [all_true]
  have e12 := e1.trans e2
  refine ⟨true, rfl, _, rfl, a, ws, rfl, .inl ⟨sq_of (e12 _ _ ha), fun l hl => k l _ (e12.trans (Ex.new hl)) (SqT.of upd_same)⟩⟩
theorem ok_rows_ofT (T : Txt w K mg) : FR P w K mg base (0 + 1) (a_rows_of K) (sp_rows_ofT K) := by
  obtain ⟨fd, F⟩ := T.d_rows_of
  refine mkR F sc_rows_of (fun _ _ _ _ _ _ us hl => match us, hl with | [_], _ => rfl) (fun vs H Q h => by obtain ⟨a, ws, rfl, ha, hz, hr, k⟩ := h; rfl) fun cdv A outer s H vs Q E hr h => ?_
  obtain ⟨a, ws, rfl, ha, hz, hr, k⟩ := h
  refine ⟨_, (pss_cons (ps_if (PW.pt (pw_or (pt_not (pt_val (pe_callB (kcall_isiT (K := K) rfl) (by rfl) T.z_isinstance b_isinstance (pa_cons (pv 0) (pa_cons (pe_tup (pa_cons (pe_bltn (v := .ty "list") rfl T.z_list b_list rfl) (pa_cons (pe_bltn (v := .ty "tuple") rfl T.z_tuple b_tuple rfl) pa_nil))) pa_nil))))) (pw_or1 (pt_not (pt_val (pe_callB (kcr_all (K := K) rfl rfl) (by rfl) T.z_all b_all (pa_cons (pe_lc (own := [("row", 1)]) rfl sc_rows_of.nd (kpi_tup (K := K) rfl (pv 0)) (blkOk_by (own := [("row", 1)]) (N := N_rows_of) (sc := defScope s_rows_of) (by decide +kernel)) (fun _ _ _ _ _ => (pg_name (i := 1) sc_rows_of.nd rfl (Or.inl rfl))) (fun _ _ _ _ _ => pts_nil) (fun _ _ _ _ _ => (pe_callB (kcall_isi (K := K) rfl) (by rfl) T.z_isinstance b_isinstance (pa_cons (pv 1) (pa_cons (pe_glob (v := .ref _) rfl T.g_Row rfl) pa_nil))))) pa_nil))))))) (pss_one (ps_never)) pss_nil)
  (pss_one (ps_ret (pe_callTy (kcall_tuple (K := K) rfl) (by rfl) T.z_tuple b_tuple (pa_cons (pv 0) pa_nil))))), ?_⟩
  refine ⟨_, rfl, sz2, fun tp htp => ?_⟩
  have e1 := Ex.new (H := H) (o := .tup [.ty "list", .ty "tuple"]) htp
  refine ⟨.ref a, tp, _, .type "tuple", [.type "list", .type "tuple"], true, rfl, upd_same, .cons (.ty "list") (.cons (.ty "tuple") .nil), tyT (ex_t e1 ha), kitAny_cons (b := false) (kit_ty (by decide +kernel)) (fun _ => kitAny_cons (b := true) (kit_ty (by decide +kernel)) (fun z => nomatch z) fun _ => rfl) (fun z => nomatch z), true, rfl, ?_⟩
  have al := ev_allN (K := K) (bs := List.replicate ws.length true) (te := tLc (iTup K (tVar 0)) (gName 1) tYes (tCB (rIsi K) (tCons (tVar 1) (tCons (tC (V.ref (He.ga K "Row"))) tNil))) [1]) (σ := L2.start N_rows_of [V.ref a]) (H := H) (by
    rw [← fm_true]
    refine el_lcT (List.replicate ws.length (some (V.bl true))) (ev_var rfl) ha (by omega) List.length_replicate fun i x r hi hrr => ?_
    cases rep_get hrr
    obtain ⟨b, C, dx, fs, rfl, hb, hC⟩ := hr x (List.mem_of_getElem? hi)
    obtain ⟨i1, i2⟩ := row_isi T hC
    intro H1 e1 R kR
    exact ⟨rfl, _, rfl, _, _, _, _, true, rfl, .own _, inst_ty i1 (row_na T hC).1 (e1 _ _ hb), of_decide_eq_true i2, kR H1 (Ex.refl H1)⟩)
  refine al _ e1 _ fun H2 e2 => ?_
  rw [all_true]
  have e12 := e1.trans e2
  exact ⟨true, rfl, _, rfl, a, ws, rfl, .inr ⟨ex_t e12 ha, k a _ e12 (ex_t e12 ha)⟩⟩
theorem ok_lines_of (T : Txt w K mg) : FR P w K mg base 1 (a_lines_of K) (sp_lines_of K) := by
  obtain ⟨fd, F⟩ := T.d_lines_of
  refine mkR F sc_lines_of (fun _ _ _ _ _ _ us hl => match us, hl with | [_], _ => rfl) (fun vs H Q h => by obtain ⟨a, ws, n, rfl, ha, hz, hn, hr, k⟩ := h; rfl) fun cdv A outer s H vs Q E hr h => ?_
  obtain ⟨a, ws, n, rfl, ha, hz, hn, hr, k⟩ := h
  refine ⟨_, (pss_cons (ps_set (i := 1) sc_lines_of.nd rfl (Or.inl rfl) (pe_lst pa_nil))
  (pss_cons (ps_for PassesOwn.never rfl (kpi_tup (K := K) rfl (pv 0)) (pg_name (i := 2) sc_lines_of.nd rfl (Or.inl rfl)) (pss_one (ps_expr (kpe_bm (K := K) rfl PySem.F.plainAttrs_list PySem.F.slot_list_extend PySem.F.type_list_extend (kmt_extend (K := K) rfl) (pv 1) (pa_cons (kfld (K := K) rfl (pv 2) rfl) pa_nil)))))
  (pss_one (ps_ret (pv 1))))), ?_⟩
  refine ⟨Nat.zero_le _, fun p hp => ?_⟩
  refine ⟨_, rfl, a, rfl, ⟨_, ex_t (Ex.new hp) ha⟩, for_tup (fun i σ' H' => Ex H H' ∧ (∃ o, σ' = [some (.ref a), some (.ref p), o]) ∧ ∃ zs, H' p = some (.lst zs) ∧ zs.length ≤ i * n) ⟨Ex.new hp, ⟨_, rfl⟩, [], upd_same, Nat.zero_le _⟩ (fun i σ' H' _ h => ex_t h.1 ha) (fun i v σ' H' hi h => ?_) (fun σ' H' h => ?_)⟩
  · obtain ⟨e, ⟨o, rfl⟩, zs, hzs, hzl⟩ := h
    obtain ⟨b, C, dx, l, fs, ls, rfl, hb, hC, hl, hls, hln⟩ := hr v (List.mem_of_getElem? hi)
    obtain ⟨cC, a1, a2, a3⟩ := row_na T hC
    have hi' : i < ws.length := (List.getElem?_eq_some_iff.mp hi).1
    have hm : i * n ≤ 24 * 3000 := Nat.mul_le_mul (by omega) hn
    have hs : (i + 1) * n = i * n + n := Nat.succ_mul i n
    refine ⟨_, rfl, tyL hzs, _, rfl, b, C, dx, fs, .ref l, rfl, e _ _ hb, cC, a1, hl, p, l, zs, ls, rfl, rfl, hzs, .inr (ex_t e hls), Nat.le_trans (show _ ≤ 75000 by omega) (by decide), ?_⟩
    refine ⟨e.mut hp, ⟨_, rfl⟩, _, upd_same, ?_⟩
    rw [List.length_append]
    omega
  · obtain ⟨e, ⟨o, rfl⟩, zs, hzs, hzl⟩ := h
    exact ⟨_, rfl, k p _ zs hp e hzs hzl⟩
end
end E97
set_option Elab.async false
set_option linter.all false
set_option maxRecDepth 100000
set_option maxHeartbeats 4000000
/-! P8: the rows' and tests' __init__ -/
namespace E97
open PySem PySem.Spec PyProof.Rows L2 Evl NdefX
def sp_put_line (K : PySem.W.Frag) (NS : List Str) : SP0 := fun vs H Q => ∃ (a : Addr) (x : Str) (g : PutG), vs = [.str x, .str g.deed, .ref a] ∧ SqT K H a g.given ∧ (g.wf NS ∧ (∀ y ∈ NS, isNm y) ∧ isNm x) ∧ ∀ z H', Ex H H' → Q (.str z) H'
def NewAt (K : PySem.W.Frag) (H0 H : Hp) (p C dx : Addr) : Prop := Ex H0 H ∧ H0 p = none ∧ H p = some (.ins C dx [])
def sp_Put_init (K : PySem.W.Frag) (NS : List Str) : SP0 := fun vs H Q => ∃ (p dx gv : Addr) (x : Str) (g : PutG) (H0 : Hp), vs = [.ref p, .str x, .str g.deed, .ref gv] ∧ NewAt K H0 H p (C_Put K) dx ∧ SqT K H gv g.given ∧ (g.wf NS ∧ (∀ y ∈ NS, isNm y) ∧ x ∈ NS) ∧
  ∀ H', Ex H0 H' → (∀ d, RowAt K NS (d + 1) H' (.ref p) (RF.put x g : RF (Rw d))) → Q .non H'
def sp_Stop_init (K : PySem.W.Frag) (NS : List Str) : SP0 := fun vs H Q => ∃ (p dx : Addr) (H0 : Hp), vs = [.ref p] ∧ NewAt K H0 H p (C_Stop K) dx ∧ ∀ H', Ex H0 H' → (∀ d, RowAt K NS (d + 1) H' (.ref p) (RF.stop : RF (Rw d))) → Q .non H'
def sp_Times_init (K : PySem.W.Frag) (NS : List Str) : SP0 := fun vs H Q => ∃ (d : Nat) (p dx ra : Addr) (n : Nat) (ws : List V) (rs : List (Rw d)) (H0 : Hp), vs = [.ref p, .int n, .ref ra] ∧ NewAt K H0 H p (C_Times K) dx ∧ (SqA K H0 ra ws ∧ RowsAt K NS d H0 ws rs) ∧ (d ≤ 2 ∧ rs.length ≤ 12 ∧ n ≤ 1000) ∧
  ∀ H', Ex H0 H' → RowAt K NS (d + 1) H' (.ref p) (RF.times n rs : RF (Rw d)) → Q .non H'
def sp_If_init (K : PySem.W.Frag) (NS : List Str) : SP0 := fun vs H Q => ∃ (d : Nat) (p dx ra oa : Addr) (tv : V) (t : PT) (ws us : List V) (rs os : List (Rw d)) (H0 : Hp), vs = [.ref p, tv, .ref ra, .ref oa] ∧ NewAt K H0 H p (C_If K) dx ∧ (TestAt K NS H0 tv t ∧ t.wf NS 4) ∧ ((SqA K H0 ra ws ∧ RowsAt K NS d H0 ws rs) ∧ SqA K H0 oa us ∧ RowsAt K NS d H0 us os) ∧ (d ≤ 2 ∧ rs.length ≤ 12 ∧ os.length ≤ 12) ∧
  ∀ H', Ex H0 H' → RowAt K NS (d + 1) H' (.ref p) (RF.ife t rs os : RF (Rw d)) → Q .non H'
def sp_Ask_init (K : PySem.W.Frag) (NS : List Str) : SP0 := fun vs H Q => ∃ (p dx nm : Addr) (word : Str) (ns : List Str) (H0 : Hp), vs = [.ref p, .str word, .ref nm] ∧ NewAt K H0 H p (C_Ask K) dx ∧ SqT K H nm (ns.map V.str) ∧ ((PT.ask word ns).wf NS 0 ∧ ∀ y ∈ NS, isNm y) ∧ ∀ H', Ex H0 H' → TestAt K NS H' (.ref p) (.ask word ns) → Q .non H'
def sp_Not_init (K : PySem.W.Frag) (NS : List Str) : SP0 := fun vs H Q => ∃ (p dx : Addr) (tv : V) (t : PT) (H0 : Hp), vs = [.ref p, tv] ∧ NewAt K H0 H p (C_Not K) dx ∧ (TestAt K NS H0 tv t ∧ t.wf NS 4) ∧ ∀ H', Ex H0 H' → TestAt K NS H' (.ref p) (.not t) → Q .non H'
def sp_rows_of (K : PySem.W.Frag) : SP0 := fun vs H Q => ∃ (a : Addr) (ws : List V), vs = [.ref a] ∧ SqA K H a ws ∧ ws.length ≤ 1000 ∧ (∀ v ∈ ws, IsRow K H v) ∧ ∀ q H', Ex H H' → SqT K H' q ws → Q (.ref q) H'
section
variable {P : Program} {w : World} {K : PySem.W.Frag} {mg : Str → Option Value} {base : Heap} {NS : List Str}
theorem FR.or {f : Addr} {k : Nat} {sp sp' : SP0} (h1 : FR P w K mg base k f sp) (h2 : FR P w K mg base k f sp') : FR P w K mg base k f (fun vs H Q => sp vs H Q ∨ sp' vs H Q) := by
  intro A outer s H us vs Q E hr e0 r hs
  rcases hs with hs | hs
  · exact h1 A outer s H us vs Q E hr e0 r hs
  · exact h2 A outer s H us vs Q E hr e0 r hs
theorem ok_rows_of (T : Txt w K mg) : FR P w K mg base 1 (a_rows_of K) (sp_rows_of K) :=
  (FR.or (ok_rows_ofL T) (ok_rows_ofT T)).imp fun vs H Q ⟨a, ws, e, h, hz, hr, k⟩ => h.elim (fun z => .inl ⟨a, ws, e, z, hz, hr, k⟩) fun z => .inr ⟨a, ws, e, z, hz, hr, k⟩
theorem fnIn_Row (T : Txt w K mg) : PySem.W.fnIn K (a_Row_init K) = true := by
  obtain ⟨fd, F⟩ := T.d_Row_init
  obtain ⟨_, _, _, _, _, _, _, _, _, _, rfl, lk, _⟩ := F.ex
  unfold PySem.W.fnIn
  rw [lk]
theorem fnIn_Test (T : Txt w K mg) : PySem.W.fnIn K (a_Test_init K) = true := by
  obtain ⟨fd, F⟩ := T.d_Test_init
  obtain ⟨_, _, _, _, _, _, _, _, _, _, rfl, lk, _⟩ := F.ex
  unfold PySem.W.fnIn
  rw [lk]
def strOf : V → Str
  | .str x => x
  | .int i => Str.ofString (toString i)
  | _ => Str.empty
theorem nat_str {k : Int} (h : 0 ≤ k ∧ k < 100) : (Str.ofString (toString k)).length ≤ 2 ∧ k.natAbs.log2 < 1920 := by
  have z : (List.range 100).all (fun n => decide ((Str.ofString (toString (n : Int))).length ≤ 2) && decide ((n : Int).natAbs.log2 < 1920)) = true := by decide +kernel
  have y := List.all_eq_true.mp z k.toNat (List.mem_range.mpr (by omega))
  rw [show ((k.toNat : Nat) : Int) = k by omega, Bool.and_eq_true] at y
  exact ⟨of_decide_eq_true y.1, of_decide_eq_true y.2⟩
theorem given_each {g : PutG} (wf : g.wf NS) {v : V} (h : v ∈ g.given) : (∃ k : Int, v = .int k ∧ 0 ≤ k ∧ k < 100) ∨ ∃ x ∈ NS, v = .str x := by
  cases g with
  | figs ks =>
    obtain ⟨z, hz, rfl⟩ := List.mem_map.mp h
    exact .inl ⟨z, rfl, wf.2 z hz⟩
  | num k => exact .inl ⟨k, List.mem_singleton.mp h, wf⟩
  | base => cases h
  | pow x k =>
    rcases List.mem_cons.mp h with rfl | h
    · exact .inr ⟨x, wf.1, rfl⟩
    · exact .inl ⟨k, List.mem_singleton.mp h, wf.2⟩
  | one d x => exact .inr ⟨x, wf.2, List.mem_singleton.mp h⟩
  | kone d k x =>
    rcases List.mem_cons.mp h with rfl | h
    · exact .inl ⟨k, rfl, wf.2.1⟩
    · exact .inr ⟨x, wf.2.2, List.mem_singleton.mp h⟩
  | two d x y =>
    rcases List.mem_cons.mp h with rfl | h
    · exact .inr ⟨x, wf.2.1, rfl⟩
    · exact .inr ⟨y, wf.2.2, List.mem_singleton.mp h⟩
theorem deed_len {g : PutG} (wf : g.wf NS) : g.deed.length ≤ 8 := by
  cases g with
  | figs ks => exact (show (Str.ofString "figures").length ≤ 8 by decide +kernel)
  | num k => exact (show (Str.ofString "number").length ≤ 8 by decide +kernel)
  | base => exact (show (Str.ofString "base").length ≤ 8 by decide +kernel)
  | pow x k => exact (show (Str.ofString "**").length ≤ 8 by decide +kernel)
  | one d x => exact (show ∀ d ∈ oneD, d.length ≤ 8 by decide +kernel) d wf.1
  | kone d k x => exact (show ∀ d ∈ koneD, d.length ≤ 8 by decide +kernel) d wf.1
  | two d x y => exact (show ∀ d ∈ twoD, d.length ≤ 8 by decide +kernel) d wf.1
theorem sum_le {m : Nat} : ∀ {ys : List Str}, (∀ y ∈ ys, y.length ≤ m) → (ys.map (·.length)).sum ≤ ys.length * m
  | [], _ => Nat.zero_le _
  | y :: r, h => by
    have h1 := h y List.mem_cons_self
    have h2 := sum_le (m := m) fun z hz => h z (List.mem_cons_of_mem _ hz)
    rw [List.map_cons, List.sum_cons, List.length_cons, Nat.succ_mul]
    omega
theorem str_map {xs : List Str} : (xs.map V.str).length = xs.length := List.length_map _
theorem cut_map {xs : List Str} {lo hi : Option Int} : ∃ ys : List Str, cutV (xs.map V.str) lo hi = ys.map V.str ∧ ys.length ≤ xs.length ∧ ∀ y ∈ ys, y ∈ xs := by
  refine ⟨(xs.drop (HT.sIx (xs.map V.str).length 0 lo)).take (HT.sIx (xs.map V.str).length (xs.map V.str).length hi - HT.sIx (xs.map V.str).length 0 lo), ?_, ?_, fun y hy => ?_⟩
  · unfold cutV
    rw [List.map_take, List.map_drop]
  · rw [List.length_take, List.length_drop]
    omega
  · exact List.mem_of_mem_drop (List.mem_of_mem_take hy)
theorem ok_put_line (T : Txt w K mg) : FR P w K mg base 1 (a_put_line K) (sp_put_line K NS) := by
  obtain ⟨fd, F⟩ := T.d_put_line
  refine mkR F sc_put_line (fun _ _ _ _ _ _ us hl => match us, hl with | [_, _, _], _ => rfl) (fun vs H Q h => by obtain ⟨a, x, g, rfl, ha, ⟨wf, hNS, hx⟩, k⟩ := h; rfl) fun cdv A outer s H vs Q E hr h => ?_
  obtain ⟨a, x, g, rfl, ha, ⟨wf, hNS, hx⟩, k⟩ := h
  refine ⟨_, (pss_cons (ps_setLc (i := 3) (own := [("arg", 5)]) rfl sc_put_line.nd rfl rfl (sw_true rfl rfl rfl (by decide +kernel)) (kpi_tup (K := K) rfl (pv 2)) (blkOk_by (own := [("arg", 5)]) (N := N_put_line) (sc := defScope s_put_line) (by decide +kernel)) (fun _ _ _ _ _ => (pg_name (i := 5) sc_put_line.nd rfl (Or.inl rfl))) (fun _ _ _ _ _ => pts_nil) (fun _ _ _ _ _ => (pe_callTy call_strA (by rfl) T.z_str b_str (pa_cons (pv 5) pa_nil))))
  (pss_cons (ps_set (i := 4) sc_put_line.nd rfl (Or.inl rfl) (pe_ifExp (pt_cmpR (op_inKD (K := K) (w := w) rfl rfl) (pv 1) (pe_glob (v := .ref _) rfl T.g_SIGNS rfl) (by rfl)) (pe_op op_cat (pe_op op_cat (pe_slice (ksl_list (K := K) rfl) (pv 3) po_none (po_some pe_int)) (pe_lst (pa_cons (pv 1) pa_nil))) (pe_slice (ksl_list (K := K) rfl) (pv 3) (po_some pe_int) po_none)) (pe_op op_cat (pe_lst (pa_cons (pv 1) pa_nil)) (pv 3))))
  (pss_one (ps_ret (kpe_join (K := K) rfl pe_str (pe_op op_cat (pe_lst (pa_cons (pv 0) (pa_cons pe_str pa_nil))) (pv 4))))))), ?_⟩
  have gl := given_few wf
  refine q_asgL (xs := (g.given.map strOf).map V.str) ?_ fun wl H1 hq1 e1 h1 => ?_
  · rw [List.map_map]
    refine el_lcTM (ev_var rfl) ha (by omega) ?_
    have id1 : g.given.map id = g.given := List.map_id _
    rw [← id1, List.map_map]
    refine pmap fun v hv => ?_
    intro H1 e1 R kR
    rcases given_each wf hv with ⟨z, rfl, hz⟩ | ⟨y, hy, rfl⟩
    · exact ⟨rfl, _, rfl, .inr ⟨z, rfl, (nat_str hz).2, kR H1 (Ex.refl H1)⟩⟩
    · exact ⟨rfl, _, rfl, .inl ⟨y, rfl, kR H1 (Ex.refl H1)⟩⟩
  have wlen : (g.given.map strOf).length ≤ 6 := by rw [List.length_map]; exact gl
  have wsmall : ∀ y ∈ g.given.map strOf, y.length ≤ 8 := fun y hy => by
    obtain ⟨v, hv, rfl⟩ := List.mem_map.mp hy
    rcases given_each wf hv with ⟨z, rfl, hz⟩ | ⟨y, hy2, rfl⟩
    · exact Nat.le_trans (nat_str hz).1 (by decide)
    · exact Nat.le_trans (hNS y hy2).1.2 (by decide)
  have fin : ∀ (tl : Addr) (ts : List Str) (H2 : Hp), Ex H H2 → H2 tl = some (.lst (ts.map V.str)) → ts.length ≤ 20 → (∀ y ∈ ts, y.length ≤ 8) →
      tRet (tM1 (rJoin K) (tC (.str " ")) (tOp rCat (tLst (tCons (tVar 0) (tCons (tC (.str "=")) tNil))) (tVar 4))) { nx := fun _ H' => Q .non H', rt := Q } [some (.str x), some (.str g.deed), some (.ref a), some (.ref wl), some (.ref tl), none] H2 := fun tl ts H2 e2 ht hl hs => by
    refine ⟨⟨_, rfl⟩, _, rfl, sz2, fun q hq => ?_⟩
    have e3 := Ex.new (H := H2) (o := .lst [V.str x, V.str "="]) hq
    refine ⟨_, rfl, q, tl, [V.str x, V.str "="], ts.map V.str, rfl, rfl, upd_same, e3 _ _ ht, Nat.le_trans (show _ ≤ 22 by rw [List.length_map]; show 2 + ts.length ≤ 22; omega) (by decide), fun r hr => ?_⟩
    have e4 := Ex.new (H := upd H2 q (.lst [V.str x, V.str "="])) (o := .lst ([V.str x, V.str "="] ++ ts.map V.str)) hr
    refine ⟨_, r, x :: "=" :: ts, rfl, rfl, .inl (sq_of upd_same), ?_, k _ _ (e2.trans (e3.trans e4))⟩
    have sm := sum_le (m := 8) (ys := x :: "=" :: ts) fun y hy => by
      rcases List.mem_cons.mp hy with rfl | hy
      · exact Nat.le_trans hx.1.2 (by decide)
      · rcases List.mem_cons.mp hy with rfl | hy
        · decide +kernel
        · exact hs y hy
    have l1 : (x :: "=" :: ts).length ≤ 22 := by rw [List.length_cons, List.length_cons]; omega
    have l2 : (Str.ofString " ").length = 1 := by decide +kernel
    rw [l2, Nat.mul_one]
    exact Nat.le_trans (Nat.add_le_add (Nat.le_trans sm (Nat.mul_le_mul l1 (Nat.le_refl 8))) l1) (by decide)
  refine ⟨_, rfl, g.deed, _, _, rfl, rfl, kt_SIGNS T, _, rfl, ?_⟩
  have dl := deed_len wf
  cases hc : (tabSIGNS.lookup g.deed).isSome with
  | true =>
    refine ⟨_, rfl, 1, rfl, wl, _, rfl, sq_of h1, fun q1 hq1' => ?_⟩
    obtain ⟨ys1, c1, l1, m1⟩ := cut_map (xs := g.given.map strOf) (lo := none) (hi := some 1)
    obtain ⟨ys2, c2, l2, m2⟩ := cut_map (xs := g.given.map strOf) (lo := some 1) (hi := none)
    rw [c1]
    have x1 := Ex.new (H := H1) (o := .lst (ys1.map V.str)) hq1'
    refine ⟨_, rfl, (show 1 ≤ sizeLine by decide), fun q2 hq2 => ?_⟩
    have x2 := Ex.new (o := .lst [V.str g.deed]) hq2
    have b1 := x2 _ _ (upd_same (H := H1) (a := q1) (o := .lst (ys1.map V.str)))
    refine ⟨q1, q2, _, _, rfl, rfl, b1, upd_same, Nat.le_trans (show _ ≤ 7 by rw [List.length_map]; show ys1.length + 1 ≤ 7; omega) (by decide), fun q3 hq3 => ?_⟩
    have x3 := Ex.new (o := .lst (ys1.map V.str ++ [V.str g.deed])) hq3
    have x13 := x1.trans (x2.trans x3)
    refine ⟨_, rfl, 1, rfl, wl, _, rfl, sq_of (x13 _ _ h1), fun q4 hq4 => ?_⟩
    rw [c2]
    have x4 := Ex.new (o := .lst (ys2.map V.str)) hq4
    have b3 := x4 _ _ (upd_same (a := q3) (o := .lst (ys1.map V.str ++ [V.str g.deed])))
    refine ⟨q3, q4, _, _, rfl, rfl, b3, upd_same, Nat.le_trans (show _ ≤ 13 by rw [List.length_append, List.length_map, List.length_map]; show ys1.length + 1 + ys2.length ≤ 13; omega) (by decide), fun q5 hq5 => ?_⟩
    refine fin q5 (ys1 ++ [g.deed] ++ ys2) _ (e1.trans (x13.trans (x4.trans (Ex.new hq5)))) ?_ ?_ ?_
    · rw [upd_same, List.map_append, List.map_append]
      rfl
    · rw [List.length_append, List.length_append]
      show ys1.length + 1 + ys2.length ≤ 20
      omega
    · intro y hy
      rcases List.mem_append.mp hy with hy | hy
      · rcases List.mem_append.mp hy with hy | hy
        · exact wsmall y (m1 y hy)
        · rw [List.mem_singleton.mp hy]; exact dl
      · exact wsmall y (m2 y hy)
  | false =>
    refine ⟨_, rfl, (show 1 ≤ sizeLine by decide), fun q2 hq2 => ?_⟩
    have x2 := Ex.new (H := H1) (o := .lst [V.str g.deed]) hq2
    refine ⟨_, rfl, q2, wl, _, _, rfl, rfl, upd_same, x2 _ _ h1, Nat.le_trans (show _ ≤ 7 by rw [List.length_map]; show 1 + (g.given.map strOf).length ≤ 7; omega) (by decide), fun q5 hq5 => ?_⟩
    refine fin q5 (g.deed :: g.given.map strOf) _ (e1.trans (x2.trans (Ex.new hq5))) ?_ ?_ ?_
    · rw [upd_same]
      rfl
    · rw [List.length_cons]; omega
    · intro y hy
      rcases List.mem_cons.mp hy with rfl | hy
      · exact dl
      · exact wsmall y hy
theorem deed_ok {g : PutG} (wf : g.wf NS) : (decide (g.deed = "figures") || (tabSIGNS.lookup g.deed).isSome || (tabPLAIN.lookup g.deed).isSome) = true := by
  cases g with
  | figs ks => exact (show (decide (Str.ofString "figures" = Str.ofString "figures") || (tabSIGNS.lookup (Str.ofString "figures")).isSome || (tabPLAIN.lookup (Str.ofString "figures")).isSome) = true by decide +kernel)
  | num k => exact (show (decide (Str.ofString "number" = Str.ofString "figures") || (tabSIGNS.lookup (Str.ofString "number")).isSome || (tabPLAIN.lookup (Str.ofString "number")).isSome) = true by decide +kernel)
  | base => exact (show (decide (Str.ofString "base" = Str.ofString "figures") || (tabSIGNS.lookup (Str.ofString "base")).isSome || (tabPLAIN.lookup (Str.ofString "base")).isSome) = true by decide +kernel)
  | pow x k => exact (show (decide (Str.ofString "**" = Str.ofString "figures") || (tabSIGNS.lookup (Str.ofString "**")).isSome || (tabPLAIN.lookup (Str.ofString "**")).isSome) = true by decide +kernel)
  | one d x => exact (show ∀ d ∈ oneD, (decide (d = Str.ofString "figures") || (tabSIGNS.lookup d).isSome || (tabPLAIN.lookup d).isSome) = true by decide +kernel) d wf.1
  | kone d k x => exact (show ∀ d ∈ koneD, (decide (d = Str.ofString "figures") || (tabSIGNS.lookup d).isSome || (tabPLAIN.lookup d).isSome) = true by decide +kernel) d wf.1
  | two d x y => exact (show ∀ d ∈ twoD, (decide (d = Str.ofString "figures") || (tabSIGNS.lookup d).isSome || (tabPLAIN.lookup d).isSome) = true by decide +kernel) d wf.1
theorem pfs_made (l i u gv : Addr) (x : Str) (g : PutG) : putF "given" (.ref gv) (putF "deed" (.str g.deed) (putF "name" (.str x) (putF "used" (.ref u) (putF "inner" (.ref i) (putF "lines" (.ref l) []))))) = pfs l i u gv x g := by kernel_rfl
theorem LB1 (d : Nat) : 3 ≤ LB (d + 1) := by show 3 ≤ 3 + 24 * LB d; omega
theorem LB_le {d : Nat} (h : d ≤ 2) : LB d ≤ 75 := by
  have z : d = 0 ∨ d = 1 ∨ d = 2 := by omega
  rcases z with rfl | rfl | rfl <;> decide
abbrev N_Put_init : List Str := ["self", "name", "deed", "given", "__class__", "arg"]
theorem sx_Put_init : NScope N_Put_init ((["self", "name", "deed"] : List Str) ++ (["given"] : List Str)) ["__class__"] (defScope s_Put_init) := nscope_by (by decide +kernel)
theorem okS_Put_init (T : Txt w K mg) {fd : FuncData} {cc : Addr} {x qual : Str} (F : FunX K x qual (defArgs s_Put_init) (defBody s_Put_init) (defScope s_Put_init) [] cc (a_Put_init K) fd) : FR P0 w K mg base (5) (a_Put_init K) (fun vs H Q => ∃ ws rest, vs = ws ++ rest ∧ ws.length = 3 ∧ rest.length ≤ sizeLine ∧ ∀ p, H p = none → (sp_Put_init K NS) (ws ++ [V.ref p]) (upd H p (.tup rest)) Q) := by
  obtain ⟨oc, od, dV, kV, doc, pm, an, cdv, ct, osl, rfl, lk, hcd, hdf⟩ := F.ex
  obtain ⟨_, rfl⟩ | ⟨hz, _⟩ := hdf
  rotate_left
  · exact absurd rfl hz
  have SU := sup_of (C := He.ga K "Put") (D := He.ga K "Row") lk T.x_super_Put
  obtain ⟨cda, _, _, _, _, _, _, rfl, _⟩ := SU.code
  refine super_star (ps := ["self", "name", "deed"]) (pv := "given") lk hcd SU.cell sx_Put_init (fun us rest hl => match us, hl with | [_, _, _], _ => by cases rest <;> rfl) (fun vs H Q h => by obtain ⟨p, dx, gv, x, g, H0, rfl, ⟨e0, hp0, hp⟩, hg, ⟨wf, hNS, hx⟩, k⟩ := h; rfl) fun A outer s H vs Q E hr h => ?_
  obtain ⟨p, dx, gv, x, g, H0, rfl, ⟨e0, hp0, hp⟩, hg, ⟨wf, hNS, hx⟩, k⟩ := h
  refine ⟨_, (psa_cons (ps_if (pt_not (pt_val (pe_callF (ok_is_name (K := K) T) (hr.mono (by omega)) (by rfl) T.g_is_name T.k_is_name (pa_cons (pv 1) pa_nil)))) (pss_one (ps_never)) pss_nil)
  (psa_cons (ps_if (pt_not (pt_val (pe_callF (ok_is_deed (K := K) T) (hr.mono (by omega)) (by rfl) T.g_is_deed T.k_is_deed (pa_cons (pv 2) pa_nil)))) (pss_one (ps_never)) pss_nil)
  (psa_cons (ps_if (pt_not (pt_val (pe_callF (ok_are_given (K := K) (NS := NS) T) (hr.mono (by omega)) (by rfl) T.g_are_given T.k_are_given (pa_cons (pv 2) (pa_cons (pv 3) pa_nil))))) (pss_one (ps_never)) pss_nil)
  (psa_super rfl lk SU rfl rfl rfl rfl rfl rfl rfl rfl T.z_super (He.eqO_ok T.x_stat) (ok_Row_init (K := K) T) (hr.mono (by omega)) (fnIn_Row T) (pa_cons (pe_lst (pa_cons (pe_callF (ok_put_line (K := K) (NS := NS) T) (hr.mono (by omega)) (by rfl) T.g_put_line T.k_put_line (pa_cons (pv 1) (pa_cons (pv 2) (pa_cons (pv 3) pa_nil)))) pa_nil)) (pa_cons (pe_lst pa_nil) (pa_cons (pe_op op_cat (pe_lst (pa_cons (pv 1) pa_nil)) (pe_lc (own := [("arg", 5)]) rfl sx_Put_init.nd (kpi_tup (K := K) rfl (pv 3)) (blkOk_by (own := [("arg", 5)]) (N := N_Put_init) (sc := defScope s_Put_init) (by decide +kernel)) (fun _ _ _ _ _ => (pg_name (i := 5) sx_Put_init.nd rfl (Or.inl rfl))) (fun _ _ _ _ _ => (pts_one (pt_val (pe_callB (kcall_isi (K := K) rfl) (by rfl) T.z_isinstance b_isinstance (pa_cons (pv 5) (pa_cons (pe_bltn (v := .ty "str") rfl T.z_str b_str rfl) pa_nil)))))) (fun _ _ _ _ _ => (pv 5)))) pa_nil)))
  (psa_of (pss_cons (kps_fld (K := K) rfl (pv 0) (pv 1) rfl)
  (pss_cons (kps_fld (K := K) rfl (pv 0) (pv 2) rfl)
  (pss_one (kps_fld (K := K) rfl (pv 0) (pv 3) rfl))))))))), ?_⟩
  have hg0 := hg
  refine ⟨_, rfl, x, rfl, hNS x hx, fun H1 e1 => ⟨true, rfl, ?_⟩⟩
  refine ⟨_, rfl, g.deed, rfl, ?_⟩
  rw [deed_ok wf]
  refine ⟨true, rfl, ?_⟩
  refine ⟨_, rfl, _, rfl, gv, g, rfl, ex_t e1 hg, wf, hNS, fun H2 e2 => ⟨true, rfl, ?_⟩⟩
  have e12 := e1.trans e2
  refine ⟨p, dx, [], rfl, e12 _ _ hp, ?_⟩
  refine ⟨_, rfl, _, rfl, _, rfl, gv, x, g, rfl, ex_t e12 hg, ⟨wf, hNS, hNS x hx⟩, fun z H3 e3 => ⟨(show 1 ≤ sizeLine by decide), fun l hl => ?_⟩⟩
  have x4 := Ex.new (H := H3) (o := .lst [V.str z]) hl
  refine ⟨Nat.zero_le _, fun i hi => ?_⟩
  have x5 := Ex.new (o := .lst []) hi
  refine ⟨_, rfl, (show 1 ≤ sizeLine by decide), fun u1 hu1 => ?_⟩
  have x6 := Ex.new (o := .lst [V.str x]) hu1
  have e36 := (e12.trans e3).trans (x4.trans (x5.trans x6))
  have hl6 := (x5.trans x6) _ _ (upd_same (H := H3) (a := l) (o := .lst [V.str z]))
  have hi6 := x6 _ _ (upd_same (a := i) (o := .lst []))
  refine el_lcTF argStr (ev_var rfl) (ex_t e36 hg) (by have := given_few wf; omega) (fun v hv => ?_) _ (Ex.refl _) _ fun u2 H7 hu2 e7 hl7 => ?_
  · intro H8 e8 R kR
    rcases given_each wf hv with ⟨z, rfl, hz⟩ | ⟨y, hy, rfl⟩
    · exact ⟨rfl, _, rfl, _, _, _, _, false, rfl, .ty "str", .base (.int z), kit_ty (by decide +kernel), false, rfl, kR _ (Ex.refl _)⟩
    · exact ⟨rfl, _, rfl, _, _, _, _, true, rfl, .ty "str", .base (.str y), kit_ty (by decide +kernel), true, rfl, _, rfl, kR _ (Ex.refl _)⟩
  rw [given_names] at hl7
  have nf := names_few g
  refine ⟨u1, u2, _, _, rfl, rfl, e7 _ _ upd_same, hl7, Nat.le_trans (show _ ≤ 3 by rw [List.length_map]; show 1 + g.names.length ≤ 3; omega) (by decide), fun u hu => ?_⟩
  have x8 := Ex.new (H := H7) (o := .lst ([V.str x] ++ g.names.map V.str)) hu
  have e08 := e36.trans (e7.trans x8)
  have hp8 := e08 _ _ hp
  have hg8 := ex_t e08 hg
  have el8 := (e7.trans x8) _ _ hl6
  have ei8 := (e7.trans x8) _ _ hi6
  refine ⟨p, _, dx, l, i, u, [], [V.str z], [], (x :: g.names).map V.str, rm1 _ p, rfl, ⟨rm1_ex _ _, rm1_no _ _, hp8, .inl rfl, Nat.zero_le _⟩, ⟨.inl (rm1_L (K := K) hp8 el8), .inl (rm1_L (K := K) hp8 ei8), .inl (rm1_L (K := K) hp8 upd_same)⟩, ⟨(show 1 ≤ 100000 by decide), (show 0 ≤ 100000 by decide), by rw [List.length_map, List.length_cons]; omega⟩, fun l' i' u' H' e' hp' hl' hi' hu' => ?_⟩
  have hg' := ex_t e' (rm1_T hp8 hg8)
  refine ⟨_, rfl, _, rfl, p, _, dx, _, rfl, hp', T.c_Put, T.n_Put_name, (by show 3 < 1000; decide), ?_⟩
  refine ⟨_, rfl, _, rfl, p, _, dx, _, rfl, upd_same, T.c_Put, T.n_Put_deed, (by show 4 < 1000; decide), ?_⟩
  refine ⟨_, rfl, _, rfl, p, _, dx, _, rfl, upd_same, T.c_Put, T.n_Put_given, (by show 5 < 1000; decide), ?_⟩
  rw [upd_upd', upd_upd', pfs_made]
  have wr : ∀ {t : Addr} {xs : List V}, SqT K H' t xs → SqT K (upd H' p (.ins (C_Put K) dx (pfs l' i' u' gv x g))) t xs := fun h => sqT_wr hp' (fun _ z => nomatch z) (fun _ _ z => nomatch z) h
  refine k _ (((rm1_sub (e0.trans e08) hp0).trans e').mut hp0) fun d => ?_
  refine ⟨p, dx, l', i', u', gv, rfl, upd_same, ⟨⟨_, wr hl', Nat.le_trans (show 1 ≤ 3 by decide) (LB1 d)⟩, wr hi', x :: g.names, wr hu', by rw [List.length_cons]; omega, fun y hy => ?_⟩, wr hg'⟩
  rcases List.mem_cons.mp hy with rfl | hy
  · exact hx
  · exact names_in wf y hy
abbrev N_Stop_init : List Str := ["self", "__class__"]
theorem sx_Stop_init : NScope N_Stop_init ["self"] ["__class__"] (defScope s_Stop_init) := nscope_by (by decide +kernel)
theorem okS_Stop_init (T : Txt w K mg) {fd : FuncData} {dvs : List V} {cc : Addr} {x qual : Str} (F : FunX K x qual (defArgs s_Stop_init) (defBody s_Stop_init) (defScope s_Stop_init) dvs cc (a_Stop_init K) fd) : FnOk P0 w K mg base CX0 (5) (a_Stop_init K) fd ["self"] (fun vs H Q _ => (sp_Stop_init K NS) vs H Q) := by
  obtain ⟨oc, od, dV, kV, doc, pm, an, cdv, ct, osl, rfl, lk, hcd, hdf⟩ := F.ex
  have SU := sup_of (C := He.ga K "Stop") (D := He.ga K "Row") lk T.x_super_Stop
  obtain ⟨cda, _, _, _, _, _, _, rfl, _⟩ := SU.code
  refine super_fn lk hcd SU.cell sx_Stop_init (fun vs H Q h => by obtain ⟨p, dx, H0, rfl, ⟨e0, hp0, hp⟩, k⟩ := h; rfl) fun A outer s H vs Q E hr h => ?_
  obtain ⟨p, dx, H0, rfl, ⟨e0, hp0, hp⟩, k⟩ := h
  refine ⟨_, (psa_super rfl lk SU rfl rfl rfl rfl rfl rfl rfl rfl T.z_super (He.eqO_ok T.x_stat) (ok_Row_init (K := K) T) (hr.mono (by omega)) (fnIn_Row T) (pa_cons (pe_lst (pa_cons pe_str pa_nil)) (pa_cons (pe_lst pa_nil) (pa_cons (pe_lst pa_nil) pa_nil)))
  (psa_of pss_nil)), ?_⟩
  refine ⟨p, dx, [], rfl, hp, (show 1 ≤ sizeLine by decide), fun l hl => ?_⟩
  have x1 := Ex.new (H := H) (o := .lst [V.str "stop"]) hl
  refine ⟨Nat.zero_le _, fun i hi => ?_⟩
  have x2 := Ex.new (o := .lst []) hi
  refine ⟨Nat.zero_le _, fun u hu => ?_⟩
  have x3 := Ex.new (o := .lst []) hu
  have e3 := x1.trans (x2.trans x3)
  have hp3 := e3 _ _ hp
  have hl3 := (x2.trans x3) _ _ (upd_same (H := H) (a := l) (o := .lst [V.str "stop"]))
  have hi3 := x3 _ _ (upd_same (a := i) (o := .lst []))
  refine ⟨p, _, dx, l, i, u, [], [V.str "stop"], [], [], rm1 _ p, rfl, ⟨rm1_ex _ _, rm1_no _ _, hp3, .inr (.inl rfl), Nat.zero_le _⟩, ⟨.inl (rm1_L (K := K) hp3 hl3), .inl (rm1_L (K := K) hp3 hi3), .inl (rm1_L (K := K) hp3 upd_same)⟩, ⟨by decide, by decide, by decide⟩, fun l' i' u' H' e' hp' hl' hi' hu' => ?_⟩
  refine k _ ((rm1_sub (e0.trans e3) hp0).trans e') fun d => ?_
  exact ⟨p, dx, l', i', u', rfl, hp', ⟨⟨_, hl', Nat.le_trans (show 1 ≤ 3 by decide) (LB1 d)⟩, hi', [], hu', Nat.zero_le _, fun y hy => by cases hy⟩⟩
theorem paired_mem {α β : Type} {R : α → β → Prop} : ∀ {xs : List α} {ys : List β} {x : α}, Paired R xs ys → x ∈ xs → ∃ y, R x y
  | _, _, _, .nil, h => by cases h
  | _, _, _, .cons r t, h => (List.mem_cons.mp h).elim (fun e => ⟨_, e ▸ r⟩) fun h => paired_mem t h
theorem rows_is {d : Nat} {H : Hp} {ws : List V} {rs : List (Rw d)} (h : RowsAt K NS d H ws rs) : (∀ v ∈ ws, IsRow K H v) ∧ ∀ v ∈ ws, LnRow K H (LB d) v := by
  have z : ∀ v ∈ ws, IsRow K H v ∧ LnRow K H (LB d) v := fun v hv => by
    obtain ⟨r, hr⟩ := paired_mem h hv
    cases d with
    | zero => exact nomatch r
    | succ d =>
      obtain ⟨a, C, dx, l, i, fs, ks, rfl, ha, hC, _, ⟨hl, ls, h1, h2⟩, _⟩ := RowAt.row hr
      exact ⟨⟨a, C, dx, fs, rfl, ha, hC⟩, a, C, dx, l, fs, ls, rfl, ha, hC, hl, h1, h2⟩
  exact ⟨fun v hv => (z v hv).1, fun v hv => (z v hv).2⟩
theorem tfs_made (n : Int) (ra l i u : Addr) : putF "used" (.ref u) (putF "inner" (.ref i) (putF "lines" (.ref l) (putF "rows" (.ref ra) (putF "count" (.int n) [])))) = ([("count", .int n), ("rows", .ref ra), ("lines", .ref l), ("inner", .ref i), ("used", .ref u)] : List (Str × V)) := by kernel_rfl
theorem tfs_rows (n : Int) (ra : Addr) : (putF "rows" (.ref ra) (putF "count" (.int n) [])).lookup ("rows" : Str) = some (.ref ra) := by kernel_rfl
theorem int_small {n : Nat} (h : n ≤ 1000) : (Str.ofString (toString (n : Int))).length ≤ 10 ∧ (n : Int).natAbs.log2 < 1920 := by
  have z : (List.range 1001).all (fun n => decide ((Str.ofString (toString (n : Int))).length ≤ 10) && decide ((n : Int).natAbs.log2 < 1920)) = true := by decide +kernel
  have y := List.all_eq_true.mp z n (List.mem_range.mpr (by omega))
  rw [Bool.and_eq_true] at y
  exact ⟨of_decide_eq_true y.1, of_decide_eq_true y.2⟩
theorem str_app {a b : Str} {n m : Nat} (h1 : a.length ≤ n) (h2 : b.length ≤ m) : (a ++ b).length ≤ n + m := by rw [PySem.Str.length_append]; omega
abbrev N_Times_init : List Str := ["self", "count", "rows", "__class__"]
theorem sx_Times_init : NScope N_Times_init ["self", "count", "rows"] ["__class__"] (defScope s_Times_init) := nscope_by (by decide +kernel)
theorem okS_Times_init (T : Txt w K mg) {fd : FuncData} {dvs : List V} {cc : Addr} {x qual : Str} (F : FunX K x qual (defArgs s_Times_init) (defBody s_Times_init) (defScope s_Times_init) dvs cc (a_Times_init K) fd) : FnOk P0 w K mg base CX0 (5) (a_Times_init K) fd ["self", "count", "rows"] (fun vs H Q _ => (sp_Times_init K NS) vs H Q) := by
  obtain ⟨oc, od, dV, kV, doc, pm, an, cdv, ct, osl, rfl, lk, hcd, hdf⟩ := F.ex
  have SU := sup_of (C := He.ga K "Times") (D := He.ga K "Row") lk T.x_super_Times
  obtain ⟨cda, _, _, _, _, _, _, rfl, _⟩ := SU.code
  refine super_fn lk hcd SU.cell sx_Times_init (fun vs H Q h => by obtain ⟨d, p, dx, ra, n, ws, rs, H0, rfl, ⟨e0, hp0, hp⟩, ⟨hra, hrs⟩, ⟨hd, hl, hn⟩, k⟩ := h; rfl) fun A outer s H vs Q E hr h => ?_
  obtain ⟨d, p, dx, ra, n, ws, rs, H0, rfl, ⟨e0, hp0, hp⟩, ⟨hra, hrs⟩, ⟨hd, hl, hn⟩, k⟩ := h
  refine ⟨_, (psa_cons (ps_if (pt_not (pt_val (pe_callF (ok_is_number (K := K) T) (hr.mono (by omega)) (by rfl) T.g_is_number T.k_is_number (pa_cons (pv 1) pa_nil)))) (pss_one (ps_never)) pss_nil)
  (psa_cons (kps_fld (K := K) rfl (pv 0) (pv 1) rfl)
  (psa_cons (kps_fld (K := K) rfl (pv 0) (pe_callF (ok_rows_of (K := K) T) (hr.mono (by omega)) (by rfl) T.g_rows_of T.k_rows_of (pa_cons (pv 2) pa_nil)) rfl)
  (psa_super rfl lk SU rfl rfl rfl rfl rfl rfl rfl rfl T.z_super (He.eqO_ok T.x_stat) (ok_Row_init (K := K) T) (hr.mono (by omega)) (fnIn_Row T) (pa_cons (pe_op op_cat (pe_op op_cat (pe_lst (pa_cons (pe_joined (.cons pe_str (.cons (pe_fmt (pv 1)) .nil))) pa_nil)) (pe_callF (ok_lines_of (K := K) T) (hr.mono (by omega)) (by rfl) T.g_lines_of T.k_lines_of (pa_cons (kfld (K := K) rfl (pv 0) rfl) pa_nil))) (pe_lst (pa_cons pe_str pa_nil))) (pa_cons (kfld (K := K) rfl (pv 0) rfl) (pa_cons (pe_lst pa_nil) pa_nil)))
  (psa_of pss_nil))))), ?_⟩
  have lw : ws.length = rs.length := paired_len hrs
  obtain ⟨ir, ln⟩ := rows_is hrs
  have lb := LB_le hd
  refine ⟨_, rfl, _, rfl, (show (0 : Int) ≤ n by omega), true, rfl, ?_⟩
  refine ⟨_, rfl, _, rfl, p, _, dx, [], rfl, hp, T.c_Times, T.n_Times_count, (by show 0 < 1000; decide), ?_⟩
  have e1 : Ex H0 (upd H p (.ins (C_Times K) dx (putF "count" (.int n) []))) := e0.mut hp0
  refine ⟨_, rfl, ra, ws, rfl, hra.mono e1, by omega, fun v hv => ?_, fun q H2 e2 hq => ?_⟩
  · obtain ⟨a, C, dy, fs, h1, h2, h3⟩ := ir v hv
    exact ⟨a, C, dy, fs, h1, e1 _ _ h2, h3⟩
  have hp2 := e2 _ _ (upd_same (H := H) (a := p) (o := HO.ins (C_Times K) dx (putF "count" (.int n) [])))
  refine ⟨_, rfl, p, _, dx, _, rfl, hp2, T.c_Times, T.n_Times_rows, (by show 1 < 1000; decide), ?_⟩
  have e3 : Ex H0 (upd H2 p (.ins (C_Times K) dx (putF "rows" (.ref q) (putF "count" (.int n) [])))) := (e1.trans e2).mut hp0
  have hq3 : SqT K (upd H2 p (.ins (C_Times K) dx (putF "rows" (.ref q) (putF "count" (.int n) [])))) q ws := sqT_wr hp2 (fun _ z => nomatch z) (fun _ _ z => nomatch z) hq
  generalize hH3 : upd H2 p (.ins (C_Times K) dx (putF "rows" (.ref q) (putF "count" (.int n) []))) = H3 at e3 hq3
  have hp3 : H3 p = some (.ins (C_Times K) dx (putF "rows" (.ref q) (putF "count" (.int n) []))) := by rw [← hH3]; exact upd_same
  obtain ⟨i1, i2⟩ := int_small hn
  refine ⟨p, dx, _, rfl, hp3, ?_⟩
  have s1 : (Str.empty ++ Str.ofString "times ").length ≤ 6 := by decide +kernel
  refine ⟨Str.ofString "times ", rfl, Nat.le_trans s1 (by decide), _, rfl, .inr ⟨n, rfl, i2, _, rfl, Nat.le_trans (str_app s1 i1) (by decide), (show 1 ≤ sizeLine by decide), fun l1 hl1 => ?_⟩⟩
  have x4 := Ex.new (H := H3) (o := .lst [V.str (Str.empty ++ Str.ofString "times " ++ Str.ofString (toString (n : Int)))]) hl1
  refine ⟨_, rfl, p, _, dx, _, _, rfl, x4 _ _ hp3, T.c_Times, T.n_Times_rows, tfs_rows _ _, q, ws, LB d, rfl, ex_t x4 hq3, by omega, by omega, fun v hv => ?_, fun l2 H5 ls hl2 e5 h2 hls => ?_⟩
  · obtain ⟨a, C, dy, l, fs, ls, h1, h2, h3, h4, h5, h6⟩ := ln v hv
    exact ⟨a, C, dy, l, fs, ls, h1, (e3.trans x4) _ _ h2, h3, h4, ex_t (e3.trans x4) h5, h6⟩
  have hll : ls.length ≤ 12 * LB d := Nat.le_trans hls (Nat.mul_le_mul (by omega) (Nat.le_refl _))
  refine ⟨l1, l2, _, _, rfl, rfl, e5 _ _ upd_same, h2, Nat.le_trans (show _ ≤ 1000 by show 1 + ls.length ≤ 1000; omega) (by decide), fun l3 hl3 => ?_⟩
  have x6 := Ex.new (H := H5) (o := .lst ([V.str (Str.empty ++ Str.ofString "times " ++ Str.ofString (toString (n : Int)))] ++ ls)) hl3
  refine ⟨(show 1 ≤ sizeLine by decide), fun l4 hl4 => ?_⟩
  have x7 := Ex.new (o := .lst [V.str "end"]) hl4
  have b3 := x7 _ _ (upd_same (H := H5) (a := l3) (o := .lst ([V.str (Str.empty ++ Str.ofString "times " ++ Str.ofString (toString (n : Int)))] ++ ls)))
  refine ⟨l3, l4, _, _, rfl, rfl, b3, upd_same, Nat.le_trans (show _ ≤ 1000 by rw [List.length_append]; show 1 + ls.length + 1 ≤ 1000; omega) (by decide), fun l5 hl5 => ?_⟩
  have x8 := Ex.new (o := .lst ([V.str (Str.empty ++ Str.ofString "times " ++ Str.ofString (toString (n : Int)))] ++ ls ++ [V.str "end"])) hl5
  have e38 := x4.trans (e5.trans (x6.trans (x7.trans x8)))
  refine ⟨_, rfl, p, _, dx, _, _, rfl, e38 _ _ hp3, T.c_Times, T.n_Times_rows, tfs_rows _ _, Nat.zero_le _, fun u hu => ?_⟩
  have x9 := Ex.new (o := .lst []) hu
  have e39 := e38.trans x9
  have hp9 := e39 _ _ hp3
  have hl9 := x9 _ _ (upd_same (a := l5) (o := .lst ([V.str (Str.empty ++ Str.ofString "times " ++ Str.ofString (toString (n : Int)))] ++ ls ++ [V.str "end"])))
  have ll9 : ([V.str (Str.empty ++ Str.ofString "times " ++ Str.ofString (toString (n : Int)))] ++ ls ++ [V.str "end"]).length ≤ 2 + 12 * LB d := by rw [List.length_append, List.length_append]; show 1 + ls.length + 1 ≤ _; omega
  refine ⟨p, _, dx, l5, q, u, _, _, ws, [], rm1 _ p, rfl, ⟨rm1_ex _ _, rm1_no _ _, hp9, .inr (.inr (.inr rfl)), (by show 2 ≤ 10; decide)⟩, ⟨.inl (rm1_L (K := K) hp9 hl9), .inr (rm1_T hp9 (ex_t e39 hq3)), .inl (rm1_L (K := K) hp9 upd_same)⟩, ⟨by omega, by omega, by decide⟩, fun l' i' u' H' e' hp' hl' hi' hu' => ?_⟩
  rw [tfs_made] at hp'
  have eF := (rm1_sub (e3.trans e39) hp0).trans e'
  refine k _ eF ⟨p, dx, q, l', i', u', ws, rfl, hp', ⟨⟨_, hl', ?_⟩, hi', [], hu', Nat.zero_le _, fun y hy => by cases hy⟩, ex_t e' (rm1_T hp9 (ex_t e39 hq3)), RowsAt.mono eF hrs⟩
  show _ ≤ 3 + 24 * LB d
  omega
theorem depth_le : ∀ {t : PT} {n : Nat}, t.wf NS n → t.depth ≤ n
  | .ask _ _, _, _ => Nat.zero_le _
  | .not t, 0, h => h.elim
  | .not t, n + 1, h => Nat.succ_le_succ (depth_le (t := t) h)
theorem ask_wf {word : Str} {ns : List Str} {n : Nat} (h : (PT.ask word ns).wf NS n) : word ∈ (["same", "less", "divides", "mirrored", "unlike"] : List Str) ∧ ns.length = askW word ∧ ∀ x ∈ ns, x ∈ NS := by cases n <;> exact h
theorem askW_le (word : Str) : askW word ≤ 2 := by unfold askW; split <;> decide
theorem TestAt.acc {H : Hp} {n : Nat} {t : PT} {v : V} (h : TestAt K NS H v t) (wf : t.wf NS n) : ∃ (a C dx u : Addr) (fs : List (Str × V)) (us : List Str) (txt : Str), v = .ref a ∧ H a = some (.ins C dx fs) ∧ (C = C_Ask K ∨ C = C_Not K) ∧ (fs.lookup ("text" : Str) = some (.str txt) ∧ txt.length ≤ 20 + 4 * t.depth) ∧
    (fs.lookup ("used" : Str) = some (.ref u) ∧ SqT K H u (us.map V.str) ∧ us.length ≤ 2 ∧ ∀ x ∈ us, x ∈ NS) := by
  cases t with
  | ask word ns =>
    obtain ⟨a, dx, u, m, txt, rfl, ha, h1, h2, h3⟩ := h
    obtain ⟨w1, w2, w3⟩ := ask_wf wf
    exact ⟨a, _, dx, u, _, ns, txt, rfl, ha, .inl rfl, ⟨by kernel_rfl, h3⟩, by kernel_rfl, h1, by rw [w2]; exact askW_le word, w3⟩
  | not t =>
    obtain ⟨a, dx, u, txt, v', us, rfl, ha, h1, ⟨h2, h3⟩, h4, _⟩ := h
    exact ⟨a, _, dx, u, _, us, txt, rfl, ha, .inr rfl, ⟨by kernel_rfl, h4⟩, by kernel_rfl, h1, h2, h3⟩
theorem test_is (T : Txt w K mg) {C : Addr} (h : C = C_Ask K ∨ C = C_Not K) : instB K C = true ∧ kitD K C (.ref (He.ga K "Test")) true = true := by
  rcases h with rfl | rfl
  · exact ⟨T.x_inst_Ask, T.x_is_Ask_Test⟩
  · exact ⟨T.x_inst_Not, T.x_is_Not_Test⟩
theorem fmt_of (T : Txt w K mg) {C : Addr} (h : C = C_Ask K ∨ C = C_Not K) : FmtO K C (a_Test_str K) := by
  have key : ∀ {D : Str}, strB K D = true → instB K (He.ga K D) = true → FmtO K (He.ga K D) (a_Test_str K) := fun {D} h1 h2 => by
    unfold strB at h1
    unfold instB at h2
    obtain ⟨a1, a2⟩ := He.ba h1
    obtain ⟨a3, a4⟩ := He.ba a2
    obtain ⟨_, b2⟩ := He.ba h2
    obtain ⟨_, b4⟩ := He.ba b2
    obtain ⟨_, b6⟩ := He.ba b4
    exact ⟨He.eqO_ok a4, of_decide_eq_true b6, He.eqO_ok a1, a3⟩
  rcases h with rfl | rfl
  · exact key T.x_strAsk T.x_inst_Ask
  · exact key T.x_strNot T.x_inst_Not
theorem ifs_made (t : V) (ra oa l i u : Addr) : putF "used" (.ref u) (putF "inner" (.ref i) (putF "lines" (.ref l) (putF "others" (.ref oa) (putF "rows" (.ref ra) (putF "test" t []))))) = ([("test", t), ("rows", .ref ra), ("others", .ref oa), ("lines", .ref l), ("inner", .ref i), ("used", .ref u)] : List (Str × V)) := by kernel_rfl
theorem ifs_rows (t : V) (ra oa : Addr) : (putF "others" (.ref oa) (putF "rows" (.ref ra) (putF "test" t []))).lookup ("rows" : Str) = some (.ref ra) := by kernel_rfl
theorem ifs_others (t : V) (ra oa : Addr) : (putF "others" (.ref oa) (putF "rows" (.ref ra) (putF "test" t []))).lookup ("others" : Str) = some (.ref oa) := by kernel_rfl
/-- a + b of tuples -/
theorem catA {H : Hp} {a b : Addr} {xs ys : List V} {Q : VK} (hx : SqT K H a xs) (hy : SqT K H b ys) (hz : xs.length + ys.length ≤ sizeLine) (k : ∀ q H', Ex H H' → SqT K H' q (xs ++ ys) → Q (.ref q) H') : rCatA K (.ref a) (.ref b) H Q :=
  ⟨a, b, xs, ys, rfl, rfl, hx, hy, hz, fun c => k b H (Ex.refl H) (by rw [c]; exact hy), fun _ c => k a H (Ex.refl H) (by rw [c, List.append_nil]; exact hx), fun _ _ p hp => k p _ (Ex.new hp) (SqT.of upd_same)⟩
abbrev N_If_init : List Str := ["self", "test", "rows", "others", "__class__", "last", "lines"]
theorem sx_If_init : NScope N_If_init ["self", "test", "rows", "others"] ["__class__"] (defScope s_If_init) := nscope_by (by decide +kernel)
theorem okS_If_init (T : Txt w K mg) {fd : FuncData} {dvs : List V} {cc : Addr} {x qual : Str} (F : FunX K x qual (defArgs s_If_init) (defBody s_If_init) (defScope s_If_init) dvs cc (a_If_init K) fd) : FnOk P0 w K mg base CX0 (5) (a_If_init K) fd ["self", "test", "rows", "others"] (fun vs H Q _ => (sp_If_init K NS) vs H Q) := by
  obtain ⟨oc, od, dV, kV, doc, pm, an, cdv, ct, osl, rfl, lk, hcd, hdf⟩ := F.ex
  have SU := sup_of (C := He.ga K "If") (D := He.ga K "Row") lk T.x_super_If
  obtain ⟨cda, _, _, _, _, _, _, rfl, _⟩ := SU.code
  refine super_fn lk hcd SU.cell sx_If_init (fun vs H Q h => by obtain ⟨d, p, dx, ra, oa, tv, t, ws, us, rs, os, H0, rfl, ⟨e0, hp0, hp⟩, ⟨ht, wt⟩, ⟨⟨hra, hrs⟩, hoa, hos⟩, ⟨hd, hl, hl2⟩, k⟩ := h; rfl) fun A outer s H vs Q E hr h => ?_
  obtain ⟨d, p, dx, ra, oa, tv, t, ws, us, rs, os, H0, rfl, ⟨e0, hp0, hp⟩, ⟨ht, wt⟩, ⟨⟨hra, hrs⟩, hoa, hos⟩, ⟨hd, hl, hl2⟩, k⟩ := h
  refine ⟨_, (psa_cons (ps_if (pt_not (pt_val (pe_callB (kcall_isi (K := K) rfl) (by rfl) T.z_isinstance b_isinstance (pa_cons (pv 1) (pa_cons (pe_glob (v := .ref _) rfl T.g_Test rfl) pa_nil))))) (pss_one (ps_never)) pss_nil)
  (psa_cons (kps_fld (K := K) rfl (pv 0) (pv 1) rfl)
  (psa_cons (kps_fld (K := K) rfl (pv 0) (pe_callF (ok_rows_of (K := K) T) (hr.mono (by omega)) (by rfl) T.g_rows_of T.k_rows_of (pa_cons (pv 2) pa_nil)) rfl)
  (psa_cons (kps_fld (K := K) rfl (pv 0) (pe_callF (ok_rows_of (K := K) T) (hr.mono (by omega)) (by rfl) T.g_rows_of T.k_rows_of (pa_cons (pv 3) pa_nil)) rfl)
  (psa_cons (ps_set (i := 5) sx_If_init.nd rfl (Or.inl rfl) (pe_ifExp (pt_cmpR op_eq (pe_callB (kcall_len (K := K) rfl) (by rfl) T.z_len b_len (pa_cons (kfld (K := K) rfl (pv 0) rfl) pa_nil)) pe_int (nomark _)) (pe_lst pa_nil) (pe_op op_cat (pe_lst (pa_cons pe_str pa_nil)) (pe_callF (ok_lines_of (K := K) T) (hr.mono (by omega)) (by rfl) T.g_lines_of T.k_lines_of (pa_cons (kfld (K := K) rfl (pv 0) rfl) pa_nil)))))
  (psa_cons (ps_set (i := 6) sx_If_init.nd rfl (Or.inl rfl) (pe_op op_cat (pe_op op_cat (pe_op op_cat (pe_lst (pa_cons (pe_joined (.cons pe_str (.cons (pe_fmtO (pv 1) (ok_Test_str (K := K) T) (hr.mono (by omega))) .nil))) pa_nil)) (pe_callF (ok_lines_of (K := K) T) (hr.mono (by omega)) (by rfl) T.g_lines_of T.k_lines_of (pa_cons (kfld (K := K) rfl (pv 0) rfl) pa_nil))) (pv 5)) (pe_lst (pa_cons pe_str pa_nil))))
  (psa_super rfl lk SU rfl rfl rfl rfl rfl rfl rfl rfl T.z_super (He.eqO_ok T.x_stat) (ok_Row_init (K := K) T) (hr.mono (by omega)) (fnIn_Row T) (pa_cons (pv 6) (pa_cons (pe_op (kop_catA (K := K) rfl) (kfld (K := K) rfl (pv 0) rfl) (kfld (K := K) rfl (pv 0) rfl)) (pa_cons (kfld (K := K) rfl (pv 1) rfl) pa_nil)))
  (psa_of pss_nil)))))))), ?_⟩
  have lw : ws.length = rs.length := paired_len hrs
  have lu : us.length = os.length := paired_len hos
  obtain ⟨ir, ln⟩ := rows_is hrs
  obtain ⟨io, lo⟩ := rows_is hos
  have lb := LB_le hd
  obtain ⟨ta, TC, tdx, tu, tfs, tus, txt, rfl, hta, hTC, ⟨htxt, hlen⟩, htu, htus, htn, htin⟩ := ht.acc wt
  have dp := depth_le wt
  obtain ⟨cT, nt1, nt2⟩ := test_na T hTC
  obtain ⟨t1, t2⟩ := test_is T hTC
  refine ⟨_, rfl, _, _, _, _, true, rfl, .own _, inst_ty t1 cT (e0 _ _ hta), of_decide_eq_true t2, true, rfl, ?_⟩
  refine ⟨_, rfl, _, rfl, p, _, dx, [], rfl, hp, T.c_If, T.n_If_test, (by show 0 < 1000; decide), ?_⟩
  have e1 : Ex H0 (upd H p (.ins (C_If K) dx (putF "test" (.ref ta) []))) := e0.mut hp0
  refine ⟨_, rfl, ra, ws, rfl, hra.mono e1, by omega, fun v hv => ?_, fun q H2 e2 hq => ?_⟩
  · obtain ⟨a, C, dy, fs, h1, h2, h3⟩ := ir v hv
    exact ⟨a, C, dy, fs, h1, e1 _ _ h2, h3⟩
  have hp2 := e2 _ _ (upd_same (H := H) (a := p) (o := HO.ins (C_If K) dx (putF "test" (.ref ta) [])))
  refine ⟨_, rfl, p, _, dx, _, rfl, hp2, T.c_If, T.n_If_rows, (by show 1 < 1000; decide), ?_⟩
  have e3 : Ex H0 (upd H2 p (.ins (C_If K) dx (putF "rows" (.ref q) (putF "test" (.ref ta) [])))) := (e1.trans e2).mut hp0
  have hq3 : SqT K (upd H2 p (.ins (C_If K) dx (putF "rows" (.ref q) (putF "test" (.ref ta) [])))) q ws := sqT_wr hp2 (fun _ z => nomatch z) (fun _ _ z => nomatch z) hq
  refine ⟨_, rfl, oa, us, rfl, hoa.mono e3, by omega, fun v hv => ?_, fun o H4 e4 ho => ?_⟩
  · obtain ⟨a, C, dy, fs, h1, h2, h3⟩ := io v hv
    exact ⟨a, C, dy, fs, h1, e3 _ _ h2, h3⟩
  have hp4 := e4 _ _ (upd_same (H := H2) (a := p) (o := HO.ins (C_If K) dx (putF "rows" (.ref q) (putF "test" (.ref ta) []))))
  refine ⟨_, rfl, p, _, dx, _, rfl, hp4, T.c_If, T.n_If_others, (by show 2 < 1000; decide), ?_⟩
  have e5 : Ex H0 (upd H4 p (.ins (C_If K) dx (putF "others" (.ref o) (putF "rows" (.ref q) (putF "test" (.ref ta) []))))) := (e3.trans e4).mut hp0
  have hq5 : SqT K (upd H4 p (.ins (C_If K) dx (putF "others" (.ref o) (putF "rows" (.ref q) (putF "test" (.ref ta) []))))) q ws := sqT_wr hp4 (fun _ z => nomatch z) (fun _ _ z => nomatch z) (ex_t e4 hq3)
  have ho5 : SqT K (upd H4 p (.ins (C_If K) dx (putF "others" (.ref o) (putF "rows" (.ref q) (putF "test" (.ref ta) []))))) o us := sqT_wr hp4 (fun _ z => nomatch z) (fun _ _ z => nomatch z) ho
  generalize hH5 : upd H4 p (.ins (C_If K) dx (putF "others" (.ref o) (putF "rows" (.ref q) (putF "test" (.ref ta) [])))) = H5 at e5 hq5 ho5
  have hp5 : H5 p = some (.ins (C_If K) dx (putF "others" (.ref o) (putF "rows" (.ref q) (putF "test" (.ref ta) [])))) := by rw [← hH5]; exact upd_same
  have fo := ifs_others (.ref ta) q o
  have fr := ifs_rows (.ref ta) q o
  -- last
  have fin : ∀ (la : Addr) (ls : List V) (H6 : Hp), Ex H5 H6 → H6 la = some (.lst ls) → ls.length ≤ 1 + 12 * LB d →
      tSeq (tAsg (tOp rCat (tOp rCat (tOp rCat (tLst (tCons (fun σ H Q => tJs [tC (.str "if "), tFmtO K (a_Test_str K) (sp_Test_str K) (tVar 1)] Str.empty σ H fun out H1 => Q (.str out) H1) tNil)) (tCallF (sp_lines_of K) (tCons (tFld K (tVar 0) "rows") tNil))) (tVar 5)) (tLst (tCons (tC (.str "end")) tNil))) (gName 6))
        (tSeq (tSuper (He.ga K "If") (sp_Row_init K) (tCons (tVar 6) (tCons (tOp (rCatA K) (tFld K (tVar 0) "rows") (tFld K (tVar 0) "others")) (tCons (tFld K (tVar 1) "used") tNil)))) tNext)
        { nx := fun _ H' => Q V.non H', rt := Q } [some (.ref p), some (.ref ta), some (.ref ra), some (.ref oa), none, some (.ref la), none] H6 := fun la ls H6 e6 hla hls => by
    have hp6 := e6 _ _ hp5
    have hta6 := (e5.trans e6) _ _ hta
    have s1 : (Str.empty ++ Str.ofString "if ").length ≤ 3 := by decide +kernel
    refine ⟨Str.ofString "if ", rfl, Nat.le_trans s1 (by decide), _, rfl, ta, TC, tdx, tfs, rfl, hta6, fmt_of T hTC, ta, TC, tdx, txt, tfs, rfl, ⟨hta6, hTC⟩, htxt, by omega, txt, rfl, txt, rfl, Nat.le_trans (str_app s1 hlen) (Nat.le_trans (show _ ≤ 100 by omega) (by decide)), (show 1 ≤ sizeLine by decide), fun l1 hl1 => ?_⟩
    have x7 := Ex.new (H := H6) (o := .lst [V.str (Str.empty ++ Str.ofString "if " ++ txt)]) hl1
    have e57 := e6.trans x7
    refine ⟨_, rfl, p, _, dx, _, _, rfl, e57 _ _ hp5, T.c_If, T.n_If_rows, fr, q, ws, LB d, rfl, ex_t e57 hq5, by omega, by omega, fun v hv => ?_, fun l2 H8 zs hl2 e8 h2 hzs => ?_⟩
    · obtain ⟨a, C, dy, l, fs, ls, h1, h2, h3, h4, h5, h6⟩ := ln v hv
      exact ⟨a, C, dy, l, fs, ls, h1, (e5.trans e57) _ _ h2, h3, h4, ex_t (e5.trans e57) h5, h6⟩
    have hll : zs.length ≤ 12 * LB d := Nat.le_trans hzs (Nat.mul_le_mul (by omega) (Nat.le_refl _))
    refine ⟨l1, l2, _, _, rfl, rfl, e8 _ _ upd_same, h2, Nat.le_trans (show _ ≤ 1000 by show 1 + zs.length ≤ 1000; omega) (by decide), fun l3 hl3 => ?_⟩
    have x9 := Ex.new (H := H8) (o := .lst ([V.str (Str.empty ++ Str.ofString "if " ++ txt)] ++ zs)) hl3
    have e69 := x7.trans (e8.trans x9)
    refine ⟨_, rfl, l3, la, _, _, rfl, rfl, upd_same, e69 _ _ hla, Nat.le_trans (show _ ≤ 2000 by rw [List.length_append]; show 1 + zs.length + ls.length ≤ 2000; omega) (by decide), fun l4 hl4 => ?_⟩
    have x10 := Ex.new (o := .lst ([V.str (Str.empty ++ Str.ofString "if " ++ txt)] ++ zs ++ ls)) hl4
    refine ⟨(show 1 ≤ sizeLine by decide), fun l5 hl5 => ?_⟩
    have x11 := Ex.new (o := .lst [V.str "end"]) hl5
    have b4 := x11 _ _ (upd_same (a := l4) (o := .lst ([V.str (Str.empty ++ Str.ofString "if " ++ txt)] ++ zs ++ ls)))
    refine ⟨l4, l5, _, _, rfl, rfl, b4, upd_same, Nat.le_trans (show _ ≤ 2001 by rw [List.length_append, List.length_append]; show 1 + zs.length + ls.length + 1 ≤ 2001; omega) (by decide), fun l6 hl6 => ?_⟩
    have x12 := Ex.new (o := .lst ([V.str (Str.empty ++ Str.ofString "if " ++ txt)] ++ zs ++ ls ++ [V.str "end"])) hl6
    have e612 := e69.trans (x10.trans (x11.trans x12))
    have e512 := e6.trans e612
    have ll : ([V.str (Str.empty ++ Str.ofString "if " ++ txt)] ++ zs ++ ls ++ [V.str "end"]).length ≤ 3 + 24 * LB d := by
      rw [List.length_append, List.length_append, List.length_append]
      show 1 + zs.length + ls.length + 1 ≤ _
      omega
    have hl6s := upd_same (H := upd (upd (upd H8 l3 (.lst ([V.str (Str.empty ++ Str.ofString "if " ++ txt)] ++ zs))) l4 (.lst ([V.str (Str.empty ++ Str.ofString "if " ++ txt)] ++ zs ++ ls))) l5 (.lst [V.str "end"])) (a := l6) (o := .lst ([V.str (Str.empty ++ Str.ofString "if " ++ txt)] ++ zs ++ ls ++ [V.str "end"]))
    generalize upd (upd (upd (upd H8 l3 (.lst ([V.str (Str.empty ++ Str.ofString "if " ++ txt)] ++ zs))) l4 (.lst ([V.str (Str.empty ++ Str.ofString "if " ++ txt)] ++ zs ++ ls))) l5 (.lst [V.str "end"])) l6 (.lst ([V.str (Str.empty ++ Str.ofString "if " ++ txt)] ++ zs ++ ls ++ [V.str "end"])) = H12 at e512 hl6s ⊢
    have hp12 := e512 _ _ hp5
    have hq12 := ex_t e512 hq5
    have ho12 := ex_t e512 ho5
    refine ⟨p, dx, _, rfl, hp12, _, rfl, ?_⟩
    refine ⟨_, rfl, p, _, dx, _, _, rfl, hp12, T.c_If, T.n_If_rows, fr, _, rfl, p, _, dx, _, _, rfl, hp12, T.c_If, T.n_If_others, fo, ?_⟩
    refine catA (Q := fun y H13 => tCons (tFld K (tVar 1) "used") tNil [some (.ref p), some (.ref ta), some (.ref ra), some (.ref oa), none, some (.ref la), some (.ref l6)] H13 fun vs H14 => sp_Row_init K (.ref p :: .ref l6 :: y :: vs) H14 fun _ H15 => Q .non H15) hq12 ho12 (Nat.le_trans (show _ ≤ 24 by omega) (by decide)) fun i H13 e13 hi => ?_
    have hp13 := e13 _ _ hp12
    have e5' := e5.trans (e512.trans e13)
    refine ⟨_, rfl, ta, TC, tdx, tfs, _, rfl, e5' _ _ hta, cT, nt2, htu, ?_⟩
    refine ⟨p, _, dx, l6, i, tu, _, _, ws ++ us, tus.map V.str, rm1 _ p, rfl, ⟨rm1_ex _ _, rm1_no _ _, hp13, .inr (.inr (.inl rfl)), (by show 3 ≤ 10; decide)⟩, ⟨.inl (rm1_L (K := K) hp13 (e13 _ _ hl6s)), .inr (rm1_T hp13 hi), .inr (rm1_T hp13 (ex_t e5' htus))⟩, ⟨by omega, by rw [List.length_append]; omega, by rw [List.length_map]; omega⟩, fun l' i' u' H' e' hp' hl' hi' hu' => ?_⟩
    rw [ifs_made] at hp'
    have eF := (rm1_sub e5' hp0).trans e'
    refine k _ eF ⟨p, dx, q, o, l', i', u', _, ws, us, rfl, hp', ⟨⟨_, hl', ?_⟩, hi', tus, hu', by omega, htin⟩, ht.mono eF, ⟨ex_t e' (rm1_T hp13 (ex_t (e512.trans e13) hq5)), RowsAt.mono eF hrs⟩, ex_t e' (rm1_T hp13 (ex_t (e512.trans e13) ho5)), RowsAt.mono eF hos⟩
    show _ ≤ 3 + 24 * LB d
    exact ll
  refine ⟨_, rfl, p, _, dx, _, _, rfl, hp5, T.c_If, T.n_If_others, fo, o, us, rfl, .inr ho5, rfl, _, rfl, ?_⟩
  refine iteI (fun c => ?_) (fun c => ?_)
  · refine ⟨Nat.zero_le _, fun la hla => ?_⟩
    exact fin la [] _ (Ex.new hla) upd_same (Nat.zero_le _)
  · refine ⟨(show 1 ≤ sizeLine by decide), fun l1 hl1 => ?_⟩
    have x6 := Ex.new (H := H5) (o := .lst [V.str "else"]) hl1
    refine ⟨_, rfl, p, _, dx, _, _, rfl, x6 _ _ hp5, T.c_If, T.n_If_others, fo, o, us, LB d, rfl, ex_t x6 ho5, by omega, by omega, fun v hv => ?_, fun l2 H7 zs hl2 e7 h2 hzs => ?_⟩
    · obtain ⟨a, C, dy, l, fs, ls, h1, h2, h3, h4, h5, h6⟩ := lo v hv
      exact ⟨a, C, dy, l, fs, ls, h1, (e5.trans x6) _ _ h2, h3, h4, ex_t (e5.trans x6) h5, h6⟩
    have hll : zs.length ≤ 12 * LB d := Nat.le_trans hzs (Nat.mul_le_mul (by omega) (Nat.le_refl _))
    refine ⟨l1, l2, _, _, rfl, rfl, e7 _ _ upd_same, h2, Nat.le_trans (show _ ≤ 1000 by show 1 + zs.length ≤ 1000; omega) (by decide), fun la hla => ?_⟩
    exact fin la _ _ (x6.trans (e7.trans (Ex.new hla))) upd_same (by rw [List.length_append]; show 1 + zs.length ≤ 1 + 12 * LB d; omega)
theorem asked_ok {word : Str} (h : word ∈ (["same", "less", "divides", "mirrored", "unlike"] : List Str)) : tabASKED.lookup word = some (.int (askW word : Nat)) ∧ word.length ≤ 8 := by
  have z : ∀ word ∈ (["same", "less", "divides", "mirrored", "unlike"] : List Str), tabASKED.lookup word = some (.int (askW word : Nat)) ∧ word.length ≤ 8 := by decide +kernel
  exact z word h
theorem afs_made (t : Str) (u n : Addr) (word : Str) : putF "names" (.ref n) (putF "word" (.str word) [("text", .str t), ("used", .ref u)]) = ([("text", .str t), ("used", .ref u), ("word", .str word), ("names", .ref n)] : List (Str × V)) := by kernel_rfl
theorem nfs_made (t : Str) (u : Addr) (v : V) : putF "test" v [("text", .str t), ("used", .ref u)] = ([("text", .str t), ("used", .ref u), ("test", v)] : List (Str × V)) := by kernel_rfl
abbrev N_Ask_init : List Str := ["self", "word", "names", "__class__", "name"]
theorem sx_Ask_init : NScope N_Ask_init ((["self", "word"] : List Str) ++ (["names"] : List Str)) ["__class__"] (defScope s_Ask_init) := nscope_by (by decide +kernel)
theorem okS_Ask_init (T : Txt w K mg) {fd : FuncData} {cc : Addr} {x qual : Str} (F : FunX K x qual (defArgs s_Ask_init) (defBody s_Ask_init) (defScope s_Ask_init) [] cc (a_Ask_init K) fd) : FR P0 w K mg base (5) (a_Ask_init K) (fun vs H Q => ∃ ws rest, vs = ws ++ rest ∧ ws.length = 2 ∧ rest.length ≤ sizeLine ∧ ∀ p, H p = none → (sp_Ask_init K NS) (ws ++ [V.ref p]) (upd H p (.tup rest)) Q) := by
  obtain ⟨oc, od, dV, kV, doc, pm, an, cdv, ct, osl, rfl, lk, hcd, hdf⟩ := F.ex
  obtain ⟨_, rfl⟩ | ⟨hz, _⟩ := hdf
  rotate_left
  · exact absurd rfl hz
  have SU := sup_of (C := He.ga K "Ask") (D := He.ga K "Test") lk T.x_super_Ask
  obtain ⟨cda, _, _, _, _, _, _, rfl, _⟩ := SU.code
  refine super_star (ps := ["self", "word"]) (pv := "names") lk hcd SU.cell sx_Ask_init (fun us rest hl => match us, hl with | [_, _], _ => by cases rest <;> rfl) (fun vs H Q h => by obtain ⟨p, dx, nm, word, ns, H0, rfl, ⟨e0, hp0, hp⟩, hnm, ⟨wf, hNS⟩, k⟩ := h; rfl) fun A outer s H vs Q E hr h => ?_
  obtain ⟨p, dx, nm, word, ns, H0, rfl, ⟨e0, hp0, hp⟩, hnm, ⟨wf, hNS⟩, k⟩ := h
  refine ⟨_, (psa_cons (ps_if (PW.pt (pw_or (pt_not (pt_val (pe_callB (kcall_isi (K := K) rfl) (by rfl) T.z_isinstance b_isinstance (pa_cons (pv 1) (pa_cons (pe_bltn (v := .ty "str") rfl T.z_str b_str rfl) pa_nil))))) (pw_or1 (pt_cmpR (op_niKD (K := K) (w := w) rfl rfl) (pv 1) (pe_glob (v := .ref _) rfl T.g_ASKED rfl) (by rfl))))) (pss_one (ps_never)) pss_nil)
  (psa_cons (ps_if (PW.pt (pw_or (pt_cmpR op_ne (pe_callB (kcall_len (K := K) rfl) (by rfl) T.z_len b_len (pa_cons (pv 2) pa_nil)) (pe_ix (ix_KD (K := K) (w := w) rfl rfl) (pe_glob (v := .ref _) rfl T.g_ASKED rfl) (pv 1) (fun _ _ => rfl)) (nomark _)) (pw_or1 (pt_not (pt_val (pe_callB (kcr_all (K := K) rfl rfl) (by rfl) T.z_all b_all (pa_cons (pe_lc (own := [("name", 4)]) rfl sx_Ask_init.nd (kpi_tup (K := K) rfl (pv 2)) (blkOk_by (own := [("name", 4)]) (N := N_Ask_init) (sc := defScope s_Ask_init) (by decide +kernel)) (fun _ _ _ _ _ => (pg_name (i := 4) sx_Ask_init.nd rfl (Or.inl rfl))) (fun _ _ _ _ _ => pts_nil) (fun _ _ _ _ _ => (pe_callF (ok_is_name (K := K) T) (hr.mono (by omega)) (by rfl) T.g_is_name T.k_is_name (pa_cons (pv 4) pa_nil)))) pa_nil))))))) (pss_one (ps_never)) pss_nil)
  (psa_super rfl lk SU rfl rfl rfl rfl rfl rfl rfl rfl T.z_super (He.eqO_ok T.x_stat) (ok_Test_init (K := K) T) (hr.mono (by omega)) (fnIn_Test T) (pa_cons (kpe_join (K := K) rfl pe_str (pe_op op_cat (pe_lst (pa_cons (pv 1) pa_nil)) (pe_callTy (kcall_list (K := K) rfl) (by rfl) T.z_list b_list (pa_cons (pv 2) pa_nil)))) (pa_cons (pv 2) pa_nil))
  (psa_of (pss_cons (kps_fld (K := K) rfl (pv 0) (pv 1) rfl)
  (pss_one (kps_fld (K := K) rfl (pv 0) (pv 2) rfl))))))), ?_⟩
  obtain ⟨w1, w2, w3⟩ := ask_wf wf
  obtain ⟨hl, w8⟩ := asked_ok w1
  have w2' := askW_le word
  refine ⟨_, rfl, _, _, _, _, true, rfl, .ty "str", .base (.str word), kit_ty (by decide +kernel), true, rfl, ?_⟩
  refine ⟨_, rfl, word, _, _, rfl, rfl, kt_ASKED T, ?_⟩
  rw [hl]
  refine ⟨_, rfl, ?_⟩
  refine ⟨_, rfl, nm, _, rfl, .inr hnm, _, rfl, _, word, _, _, rfl, rfl, kt_ASKED T, hl, rfl, _, rfl, ?_⟩
  refine iteNI (fun c => absurd (show ((ns.map V.str).length : Int) = (askW word : Nat) by rw [List.length_map, w2]) c) (fun _ => ?_)
  have al := ev_allN (K := K) (bs := List.replicate ns.length true) (te := tLc (iTup K (tVar 2)) (gName 4) tYes (tCallF sp_is_name (tCons (tVar 4) tNil)) [4]) (σ := startF N_Ask_init [V.ref p, V.str word, V.ref nm] [none]) (H := H) (by
    rw [← fm_true]
    refine el_lcT (List.replicate ns.length (some (V.bl true))) (ev_var rfl) hnm (by rw [List.length_map]; omega) (by rw [List.length_replicate, List.length_map]) fun i x r hi hrr => ?_
    cases rep_get hrr
    rw [List.getElem?_map] at hi
    obtain ⟨y, hy, rfl⟩ := Option.map_eq_some_iff.mp hi
    intro H1 e1 R kR
    exact ⟨rfl, _, rfl, y, rfl, hNS y (w3 y (List.mem_of_getElem? hy)), fun H2 e2 => kR H2 e2⟩)
  refine al H (Ex.refl H) _ fun H1 e1 => ?_
  rw [all_true]
  refine ⟨true, rfl, ?_⟩
  have hp1 := e1 _ _ hp
  refine ⟨p, dx, [], rfl, hp1, ⟨_, rfl⟩, _, rfl, (show 1 ≤ sizeLine by decide), fun l1 hl1 => ?_⟩
  have x2 := Ex.new (H := H1) (o := .lst [V.str word]) hl1
  refine ⟨_, rfl, nm, _, rfl, .inr (ex_t (e1.trans x2) hnm), fun l2 hl2 => ?_⟩
  have x3 := Ex.new (o := .lst (ns.map V.str)) hl2
  refine ⟨l1, l2, _, _, rfl, rfl, x3 _ _ upd_same, upd_same, Nat.le_trans (show _ ≤ 3 by rw [List.length_map]; show 1 + ns.length ≤ 3; omega) (by decide), fun l3 hl3 => ?_⟩
  have x4 := Ex.new (o := .lst ([V.str word] ++ ns.map V.str)) hl3
  have e4 := e1.trans (x2.trans (x3.trans x4))
  have hp4 := e4 _ _ hp
  have hnm4 := ex_t e4 hnm
  have sm := sum_le (m := 4) (ys := ns) fun y hy => (hNS y (w3 y hy)).1.2
  have l1' : (Str.ofString " ").length = 1 := by decide +kernel
  have jl := PySem.StrLaws.join_length_le (Str.ofString " ") (word :: ns)
  rw [List.map_cons, List.sum_cons, List.length_cons, l1', Nat.mul_one] at jl
  refine ⟨_, l3, word :: ns, rfl, rfl, .inl (sq_of upd_same), ?_, ?_⟩
  · rw [List.map_cons, List.sum_cons, List.length_cons, l1', Nat.mul_one]
    exact Nat.le_trans (show _ ≤ 100 by omega) (by decide)
  have jl2 : (PySem.Txt.join (Str.ofString " ") (word :: ns)).length ≤ 20 := by
    have nl : ns.length ≤ 2 := by rw [w2]; exact w2'
    rw [TL.join_eq]
    omega
  generalize PySem.Txt.join (Str.ofString " ") (word :: ns) = txt at jl2
  refine ⟨_, rfl, p, _, dx, nm, txt, _, rfl, ⟨hp4, .inl rfl⟩, hnm4, ?_⟩
  rw [upd_upd']
  refine ⟨_, rfl, _, rfl, p, _, dx, _, rfl, upd_same, T.c_Ask, T.n_Ask_word, (by show 2 < 1000; decide), ?_⟩
  refine ⟨_, rfl, _, rfl, p, _, dx, _, rfl, upd_same, T.c_Ask, T.n_Ask_names, (by show 3 < 1000; decide), ?_⟩
  rw [upd_upd', upd_upd', afs_made]
  have hn : SqT K (upd _ p (.ins (C_Ask K) dx ([("text", .str txt), ("used", .ref nm), ("word", .str word), ("names", .ref nm)] : List (Str × V)))) nm (ns.map V.str) := sqT_wr hp4 (fun _ z => nomatch z) (fun _ _ z => nomatch z) hnm4
  exact k _ ((e0.trans e4).mut hp0) ⟨p, dx, nm, nm, txt, rfl, upd_same, hn, hn, jl2⟩
abbrev N_Not_init : List Str := ["self", "test", "__class__"]
theorem sx_Not_init : NScope N_Not_init ["self", "test"] ["__class__"] (defScope s_Not_init) := nscope_by (by decide +kernel)
theorem okS_Not_init (T : Txt w K mg) {fd : FuncData} {dvs : List V} {cc : Addr} {x qual : Str} (F : FunX K x qual (defArgs s_Not_init) (defBody s_Not_init) (defScope s_Not_init) dvs cc (a_Not_init K) fd) : FnOk P0 w K mg base CX0 (5) (a_Not_init K) fd ["self", "test"] (fun vs H Q _ => (sp_Not_init K NS) vs H Q) := by
  obtain ⟨oc, od, dV, kV, doc, pm, an, cdv, ct, osl, rfl, lk, hcd, hdf⟩ := F.ex
  have SU := sup_of (C := He.ga K "Not") (D := He.ga K "Test") lk T.x_super_Not
  obtain ⟨cda, _, _, _, _, _, _, rfl, _⟩ := SU.code
  refine super_fn lk hcd SU.cell sx_Not_init (fun vs H Q h => by obtain ⟨p, dx, tv, t, H0, rfl, ⟨e0, hp0, hp⟩, ⟨ht, wt⟩, k⟩ := h; rfl) fun A outer s H vs Q E hr h => ?_
  obtain ⟨p, dx, tv, t, H0, rfl, ⟨e0, hp0, hp⟩, ⟨ht, wt⟩, k⟩ := h
  refine ⟨_, (psa_cons (ps_if (pt_not (pt_val (pe_callB (kcall_isi (K := K) rfl) (by rfl) T.z_isinstance b_isinstance (pa_cons (pv 1) (pa_cons (pe_glob (v := .ref _) rfl T.g_Test rfl) pa_nil))))) (pss_one (ps_never)) pss_nil)
  (psa_super rfl lk SU rfl rfl rfl rfl rfl rfl rfl rfl T.z_super (He.eqO_ok T.x_stat) (ok_Test_init (K := K) T) (hr.mono (by omega)) (fnIn_Test T) (pa_cons (pe_joined (.cons pe_str (.cons (pe_fmtO (pv 1) (ok_Test_str (K := K) T) (hr.mono (by omega))) .nil))) (pa_cons (kfld (K := K) rfl (pv 1) rfl) pa_nil))
  (psa_of (pss_one (kps_fld (K := K) rfl (pv 0) (pv 1) rfl))))), ?_⟩
  obtain ⟨ta, TC, tdx, tu, tfs, tus, txt, rfl, hta, hTC, ⟨htxt, hlen⟩, htu, htus, htn, htin⟩ := ht.acc wt
  have dp := depth_le wt
  obtain ⟨cT, nt1, nt2⟩ := test_na T hTC
  obtain ⟨t1, t2⟩ := test_is T hTC
  have hta' := e0 _ _ hta
  refine ⟨_, rfl, _, _, _, _, true, rfl, .own _, inst_ty t1 cT hta', of_decide_eq_true t2, true, rfl, ?_⟩
  have s1 : (Str.empty ++ Str.ofString "not ").length ≤ 4 := by decide +kernel
  have sl := str_app s1 hlen
  refine ⟨p, dx, [], rfl, hp, Str.ofString "not ", rfl, Nat.le_trans s1 (by decide), _, rfl, ta, TC, tdx, tfs, rfl, hta', fmt_of T hTC, ta, TC, tdx, txt, tfs, rfl, ⟨hta', hTC⟩, htxt, by omega, txt, rfl, txt, rfl, Nat.le_trans sl (Nat.le_trans (show _ ≤ 100 by omega) (by decide)), ?_⟩
  refine ⟨_, rfl, ta, TC, tdx, tfs, _, rfl, hta', cT, nt2, htu, ?_⟩
  refine ⟨p, _, dx, tu, _, _, rfl, ⟨hp, .inr rfl⟩, ex_t e0 htus, ?_⟩
  rw [upd_upd']
  refine ⟨_, rfl, _, rfl, p, _, dx, _, rfl, upd_same, T.c_Not, T.n_Not_test, (by show 2 < 1000; decide), ?_⟩
  rw [upd_upd', nfs_made]
  have eF := e0.mut (o := .ins (C_Not K) dx ([("text", .str (Str.empty ++ Str.ofString "not " ++ txt)), ("used", .ref tu), ("test", .ref ta)] : List (Str × V))) hp0
  exact k _ eF ⟨p, dx, tu, _, _, tus, rfl, upd_same, ex_t eF htus, ⟨htn, htin⟩, (show _ ≤ 20 + 4 * (t.depth + 1) by omega), ht.mono eF⟩
end
end E97
set_option Elab.async false
set_option linter.all false
set_option maxRecDepth 100000
set_option maxHeartbeats 4000000
/-! P9: the parser, one line -/
namespace E97
open PySem PySem.Spec PyProof.Rows L2 Evl NdefX
section
variable {X : Cx} {K : PySem.W.Frag}
/-- over a list or a tuple -/
def iAny (K : PySem.W.Frag) (tl : TE) : TI := fun σ H R => tl σ H fun x H1 => ∃ a, x = .ref a ∧ (((∃ xs, SqL K H1 a xs) ∧ R (Itl K a) H1) ∨ ((∃ xs, SqT K H1 a xs) ∧ R (Itt K a) H1))
theorem pi_any {tg l : Expr} {tl : TE} (hl : PE X l tl) : PI X tg l (iAny X.K tl) := by
  refine ⟨fun pins s σ H R I h => ?_⟩
  refine thn (hl.run pins s σ H _ I h) fun v s1 ⟨x, H1, I1, r1, a, e, q⟩ => ?_
  subst e
  cases r1
  rcases q with ⟨⟨xs, hq⟩, q⟩ | ⟨⟨xs, hq⟩, q⟩
  · obtain ⟨its, rv, p, hz⟩ := I1.list hq
    refine wpAny_pyIter_list p.isList ?_
    refine ⟨s1.heap.objs.size, [s1.heap.objs.size], _, _, H1, rfl, I1.kept (t' := s1.toks) fun b o e => Heap.get?_push_of_some _ e, turn_list a _, ⟨_, Heap.get?_push_size _ rfl, rfl, rfl⟩, fun b hb => ?_, q⟩
    have e : b = s1.heap.objs.size := by simpa using hb
    subst e
    exact I1.fpOk (Nat.le_refl _) (I1.hok.fresh (Nat.le_refl _))
  · obtain ⟨its, rv, p, hz⟩ := I1.tuple hq
    refine wpAny_pyIter_tuple (show s1.heap.IsTuple a its.toArray from p) ?_
    refine ⟨s1.heap.objs.size, [s1.heap.objs.size], _, _, H1, rfl, I1.kept (t' := s1.toks) fun b o e => Heap.get?_push_of_some _ e, turn_tuple a _, ⟨_, Heap.get?_push_size _ rfl, rfl, rfl⟩, fun b hb => ?_, q⟩
    have e : b = s1.heap.objs.size := by simpa using hb
    subst e
    exact I1.fpOk (Nat.le_refl _) (I1.hok.fresh (Nat.le_refl _))
theorem kpi_any (hK : X.K = K) {tg l : Expr} {tl : TE} (hl : PE X l tl) : PI X tg l (iAny K tl) := by subst hK; exact pi_any hl
end
/-! ### positional calls of such inits -/
section
variable {P : Program} {w : World} {K : PySem.W.Frag} {mg : Str → Option Value} {base : Heap} {NS ps : List Str} {x qual : Str} {params : Arguments} {body : List Stmt} {scope : Scope} {f cc : Addr} {fd : FuncData} {dvs : List V}
theorem FunX.bindsN (F : FunX K x qual params body scope [] cc f fd)
    (h : ∀ (kV doc pm : Value) (an : Option Addr) (cdv ct : Value) (us : List Value), us.length = ps.length → bindArgs (PySem.W.fnX x qual params body scope [("__class__", cc)] .none kV doc pm an cdv ct) ⟨us, []⟩ = pure (ps.zip us)) : ∃ ds, Vals [] ds ∧ Binds K fd ps ds := by
  obtain ⟨oc, od, dV, kV, doc, pm, an, cdv, ct, osl, rfl, lk, hcd, hD⟩ := F.ex
  rcases hD with ⟨_, rfl⟩ | ⟨e, _⟩
  · exact ⟨[], .nil, .all (h kV doc pm an cdv ct)⟩
  · exact absurd rfl e
theorem FunX.binds1 (F : FunX K x qual params body scope dvs cc f fd) (n j : Nat) (hd : dvs ≠ []) (hn : n + (dvs.length - j) = ps.length)
    (h : ∀ (T : Addr) (kV doc pm : Value) (an : Option Addr) (cdv ct : Value) (us its : List Value), us.length = n → its.length = dvs.length →
      ∃ k, bindArgs (PySem.W.fnX x qual params body scope [("__class__", cc)] (.ref T) kV doc pm an cdv ct) ⟨us, []⟩ = seqItems? (.ref T) >>= k ∧ k (some its.toArray) = pure (ps.zip (us ++ its.drop j))) : ∃ ds, Vals (dvs.drop j) ds ∧ Binds K fd ps ds := by
  obtain ⟨oc, od, dV, kV, doc, pm, an, cdv, ct, osl, rfl, lk, hcd, hD⟩ := F.ex
  rcases hD with ⟨e, _⟩ | ⟨_, T, o, its, m, rfl, lT, oT, rT⟩
  · exact absurd e hd
  · refine ⟨its.drop j, rT.drop j, fun s us X hlen => ?_⟩
    have l1 : its.length = dvs.length := rT.length.symm
    have l2 : us.length = n := by
      rw [List.length_append, List.length_drop, l1] at hlen
      omega
    obtain ⟨k, e1, e2⟩ := h T kV doc pm an cdv ct us its l2 l1
    refine BindsTo.of_looks fun M => ?_
    rw [e1]
    exact looks_items X lT oT (.of_pure e2)
def spStar (n : Nat) (sp : SP0) : SP0 := fun vs H Q => ∃ ws rest, vs = ws ++ rest ∧ ws.length = n ∧ rest.length ≤ sizeLine ∧ ∀ p, H p = none → sp (ws ++ [V.ref p]) (upd H p (.tup rest)) Q
theorem ok_Put_init (T : Txt w K mg) : FR P0 w K mg base 5 (a_Put_init K) (spStar 3 (sp_Put_init K NS)) := by
  obtain ⟨fd, cc, F⟩ := T.d_Put_init
  exact okS_Put_init T F
theorem ok_Ask_init (T : Txt w K mg) : FR P0 w K mg base 5 (a_Ask_init K) (spStar 2 (sp_Ask_init K NS)) := by
  obtain ⟨fd, cc, F⟩ := T.d_Ask_init
  exact okS_Ask_init T F
theorem fr0 {k : Nat} {sp : SP0} (h : FR P w K mg base k f (fun vs H Q => sp (vs ++ []) H Q)) : FR P w K mg base k f sp := h.imp fun vs H Q q => by rw [List.append_nil]; exact q
theorem ok_Stop_init (T : Txt w K mg) : FR P0 w K mg base 5 (a_Stop_init K) (sp_Stop_init K NS) := by
  obtain ⟨fd, cc, F⟩ := T.d_Stop_init
  exact fr0 (okFr (okS_Stop_init T F) (F.bindsN fun _ _ _ _ _ _ us hl => match us, hl with | [_], _ => rfl))
theorem ok_Times_init (T : Txt w K mg) : FR P0 w K mg base 5 (a_Times_init K) (sp_Times_init K NS) := by
  obtain ⟨fd, cc, F⟩ := T.d_Times_init
  exact fr0 (okFr (okS_Times_init T F) (F.bindsN fun _ _ _ _ _ _ us hl => match us, hl with | [_, _, _], _ => rfl))
theorem ok_Not_init (T : Txt w K mg) : FR P0 w K mg base 5 (a_Not_init K) (sp_Not_init K NS) := by
  obtain ⟨fd, cc, F⟩ := T.d_Not_init
  exact fr0 (okFr (okS_Not_init T F) (F.bindsN fun _ _ _ _ _ _ us hl => match us, hl with | [_, _], _ => rfl))
def sp_If_init2 (K : PySem.W.Frag) (NS : List Str) : SP0 := fun vs H Q => sp_If_init K NS (vs ++ [.ref (He.dflAt ("If", some "__init__") 0 K)]) H Q
theorem ok_If_init2 (T : Txt w K mg) : FR P0 w K mg base 5 (a_If_init K) (sp_If_init2 K NS) := by
  obtain ⟨fd, cc, F⟩ := T.d_If_init
  refine okFr (okS_If_init T F) (F.binds1 3 0 (fun z => nomatch z) rfl fun T kV doc pm an cdv ct us its l1 l2 => ?_)
  match us, its, l1, l2 with
  | [_, _, _], [_], _, _ => exact ⟨_, rfl, rfl⟩
theorem ok_If_init3 (T : Txt w K mg) : FR P0 w K mg base 5 (a_If_init K) (sp_If_init K NS) := by
  obtain ⟨fd, cc, F⟩ := T.d_If_init
  refine fr0 (okFr (okS_If_init T F) (F.binds1 4 1 (fun z => nomatch z) rfl fun T kV doc pm an cdv ct us its l1 l2 => ?_))
  match us, its, l1, l2 with
  | [_, _, _, _], [_], _, _ => exact ⟨_, rfl, rfl⟩
end
/-! ### tokens -/
inductive Tk where
  | put (x : Str) (g : PutG) | stop | times (n : Nat) | iff (t : PT) | els | fin
def testW : PT → List Str
  | .ask word ns => word :: ns
  | .not t => "not" :: testW t
def putW (x : Str) (g : PutG) : List Str := x :: "=" :: (match g with
  | .pow a k => [a, "**", strOf (.int k)]
  | .two d a b => if (tabSIGNS.lookup d).isSome then [a, d, b] else [d, a, b]
  | g => g.deed :: g.given.map strOf)
def numS (n : Nat) : Str := Str.ofString (toString (n : Int))
def tkW : Tk → List Str
  | .put x g => putW x g
  | .stop => ["stop"]
  | .times n => ["times", numS n]
  | .iff t => "if" :: testW t
  | .els => ["else"]
  | .fin => ["end"]
def Tk.wf (NS : List Str) : Tk → Prop
  | .put x g => x ∈ NS ∧ g.wf NS
  | .times n => n ≤ 4
  | .iff t => t.wf NS 4
  | _ => True
def tkLine (t : Tk) : Str := PySem.Txt.join " " (tkW t)
/-- a text of a number, a name -/
def isNum (x : Str) (k : Int) : Prop := x = strOf (.int k) ∧ 0 ≤ k ∧ k < 100
def sp_number_in : SP0 := fun vs H Q => ∃ x : Str, vs = [.str x, .int 9] ∧ ((∃ k, isNum x k ∧ ∀ H', Ex H H' → Q (.int k) H') ∨ (isNm x ∧ ∀ H', Ex H H' → Q .non H'))
def sp_number_in1 : SP0 := fun vs H Q => sp_number_in (vs ++ [.int 9]) H Q
def sp_arg_in : SP0 := fun vs H Q => ∃ x : Str, vs = [.str x] ∧ ((∃ k, isNum x k ∧ ∀ H', Ex H H' → Q (.int k) H') ∨ (isNm x ∧ ∀ H', Ex H H' → Q (.str x) H'))
def sp_put_in (K : PySem.W.Frag) (NS : List Str) : SP0 := fun vs H Q => ∃ (a : Addr) (x : Str) (g : PutG), vs = [.ref a] ∧ H a = some (.lst ((putW x g).map V.str)) ∧ (x ∈ NS ∧ g.wf NS ∧ ∀ y ∈ NS, isNm y) ∧ ∀ p H', H p = none → Ex H H' → (∀ d, RowAt K NS (d + 1) H' (.ref p) (RF.put x g : RF (Rw d))) → Q (.ref p) H'
def sp_test_in (K : PySem.W.Frag) (NS : List Str) (n : Nat) : SP0 := fun vs H Q => ∃ (a : Addr) (t : PT), vs = [.ref a] ∧ t.depth < n ∧ H a = some (.lst ((testW t).map V.str)) ∧ (t.wf NS 4 ∧ ∀ y ∈ NS, isNm y) ∧ ∀ p H', H p = none → Ex H H' → TestAt K NS H' (.ref p) t → Q (.ref p) H'
def sp_single_in (K : PySem.W.Frag) (NS : List Str) : SP0 := fun vs H Q => ∃ t : Tk, vs = [.str (tkLine t)] ∧ (t.wf NS ∧ ∀ y ∈ NS, isNm y) ∧ match t with
  | .put x g => ∀ p H', H p = none → Ex H H' → (∀ d, RowAt K NS (d + 1) H' (.ref p) (RF.put x g : RF (Rw d))) → Q (.ref p) H'
  | .stop => ∀ p H', H p = none → Ex H H' → (∀ d, RowAt K NS (d + 1) H' (.ref p) (RF.stop : RF (Rw d))) → Q (.ref p) H'
  | _ => ∀ H', Ex H H' → Q .non H'
def sp_head_in (K : PySem.W.Frag) (NS : List Str) : SP0 := fun vs H Q => ∃ t : Tk, vs = [.str (tkLine t)] ∧ (t.wf NS ∧ ∀ y ∈ NS, isNm y) ∧ match t with
  | .iff t => ∀ p H', H p = none → Ex H H' → TestAt K NS H' (.ref p) t → Q (.ref p) H'
  | .times n => ∀ H', Ex H H' → Q (.int n) H'
  | _ => False
section
variable {P : Program} {w : World} {K : PySem.W.Frag} {mg : Str → Option Value} {base : Heap} {NS : List Str}
theorem el_lcS {K : PySem.W.Frag} {tl : TE} {g : TG} {tt : TT} {te : TE} {vs : List Nat} {σ : L2.St} {H : Hp} {z : Str} (rs : List (Option V)) (h : Ev tl σ H (.str z)) (hz : z.cps.size ≤ 100000) (hl : rs.length = z.cps.size)
    (hs : ∀ (i : Nat) (c : Nat) (r : Option V), z.cps[i]? = some c → rs[i]? = some r → Turn g tt te vs σ H (.str ⟨#[c]⟩) r) : EvL (tLc (iStr tl) g tt te vs) σ H (rs.filterMap id) := fun H1 e Q q =>
  h H1 e _ fun H2 e2 => ⟨z, rfl, fun D hD => by
    refine lc_it walk_str (fun i H' => Ex H2 H' ∧ H' D = some (.lst ((rs.take i).filterMap id))) ⟨Ex.new hD, upd_same⟩ (fun _ _ _ _ => trivial) (fun i v H3 H' hi p y => ?_) fun H' p => ?_
    · obtain ⟨rfl, c, hc, rfl⟩ := y
      obtain ⟨r, hr⟩ : ∃ r, rs[i]? = some r := ⟨rs[i]'(by omega), List.getElem?_eq_getElem _⟩
      exact lc_turn (hs i c r hc hr) (e.trans e2) hD p.1 p.2 (rs_len (by omega)) fun H4 e4 h4 => ⟨e4, by rw [take_rs hr]; exact h4⟩
    · have z2 := p.2
      rw [← hl, List.take_length] at z2
      exact q D H' (fresh_back e2 hD) (e2.trans p.1) z2⟩
abbrev digs : List Nat := (Str.ofString "0123456789").cps.toList
theorem num_facts {k : Int} (h : 0 ≤ k ∧ k < 100) : (1 ≤ (strOf (.int k)).cps.size ∧ (strOf (.int k)).cps.size ≤ 9) ∧ (∀ c ∈ (strOf (.int k)).cps.toList, c ∈ digs) ∧ PySem.intText? (strOf (.int k)) = some k ∧ ∃ c, (strOf (.int k)).cps.toList[0]? = some c ∧ (c ≠ 48 ∨ strOf (.int k) = "0") := by
  have z : (List.range 100).all (fun n => decide (1 ≤ (strOf (.int (n : Int))).cps.size) && decide ((strOf (.int (n : Int))).cps.size ≤ 9) && (strOf (.int (n : Int))).cps.toList.all (fun c => decide (c ∈ digs)) && decide (PySem.intText? (strOf (.int (n : Int))) = some (n : Int)) &&
      (match (strOf (.int (n : Int))).cps.toList[0]? with | some c => decide (c ≠ 48) || decide (strOf (.int (n : Int)) = "0") | none => false)) = true := by decide +kernel
  have y := List.all_eq_true.mp z k.toNat (List.mem_range.mpr (by omega))
  rw [show ((k.toNat : Nat) : Int) = k by omega] at y
  simp only [Bool.and_eq_true] at y
  obtain ⟨⟨⟨⟨y1, y2⟩, y3⟩, y4⟩, y5⟩ := y
  refine ⟨⟨of_decide_eq_true y1, of_decide_eq_true y2⟩, fun c hc => of_decide_eq_true (List.all_eq_true.mp y3 c hc), of_decide_eq_true y4, ?_⟩
  cases q : (strOf (.int k)).cps.toList[0]? with
  | none => rw [q] at y5; cases y5
  | some c =>
    rw [q] at y5
    rcases (Bool.or_eq_true _ _).mp y5 with z | z
    · exact ⟨c, rfl, .inl (of_decide_eq_true z)⟩
    · exact ⟨c, rfl, .inr (of_decide_eq_true z)⟩
theorem nm_not_dig {c : Nat} (h : 97 ≤ c ∧ c ≤ 122) : c ∉ digs := by
  have z : ∀ d ∈ digs, d < 97 := by decide +kernel
  intro hc
  have := z c hc
  omega
theorem fm_bl (f : Nat → Bool) : ∀ l : List Nat, (l.map fun c => some (V.bl (f c))).filterMap id = (l.map f).map V.bl
  | [] => rfl
  | c :: r => by
    rw [List.map_cons, List.filterMap_cons, fm_bl f r]
    rfl
theorem okF_number_in (T : Txt w K mg) {fd : FuncData} {dvs : List V} {kws : List (Str × V)} {x qual : Str} (F : FunD K x qual (defArgs s_number_in) (defBody s_number_in) (defScope s_number_in) dvs kws (a_number_in K) fd) : FnOk P w K mg base CX0 (1) (a_number_in K) fd ["word", "most"] (fun vs H Q _ => (sp_number_in) vs H Q) := by
  obtain ⟨tkDIGITS, gDIGITS⟩ := T.t_DIGITS
  refine mkOk F sc_number_in (fun vs H Q h => by obtain ⟨x, rfl, hx⟩ := h; rfl) fun cdv A outer s H vs Q E hr h => ?_
  obtain ⟨x, rfl, hx⟩ := h
  refine ⟨_, (pss_cons (ps_if (PW.pt (pw_or (pt_not (pt_chain op_le op_le pe_int (pe_callB call_len_str (by rfl) T.z_len b_len (pa_cons (pv 0) pa_nil)) (pv 1))) (pw_or1 (pt_not (pt_val (pe_callB (kcr_all (K := K) rfl rfl) (by rfl) T.z_all b_all (pa_cons (pe_lc (own := [("sign", 2)]) rfl sc_number_in.nd (pi_str (pv 0)) (blkOk_by (own := [("sign", 2)]) (N := N_number_in) (sc := defScope s_number_in) (by decide +kernel)) (fun _ _ _ _ _ => (pg_name (i := 2) sc_number_in.nd rfl (Or.inl rfl))) (fun _ _ _ _ _ => pts_nil) (fun _ _ _ _ _ => (pe_cmpR op_in_sign (pv 2) (pe_glob (v := .str "0123456789") rfl gDIGITS ⟨_, rfl⟩) rfl))) pa_nil))))))) (pss_one (ps_ret pe_non)) pss_nil)
  (pss_one (ps_ret (pe_ifExp (PW.pt (pw_or (pt_cmpR op_ne (pe_ix ix_str (pv 0) pe_int (fun _ _ => rfl)) pe_str (nomark _)) (pw_or1 (pt_cmpR op_eq (pv 0) pe_str (nomark _))))) (pe_callTy call_int_str (by rfl) T.z_int b_int (pa_cons (pv 0) pa_nil)) pe_non)))), ?_⟩
  have sz : (1 ≤ x.cps.size ∧ x.cps.size ≤ 9) ∧ ((∃ k, isNum x k ∧ ∀ H', Ex H H' → Q (.int k) H') ∨ (isNm x ∧ ∀ H', Ex H H' → Q .non H')) := by
    rcases hx with ⟨k, ⟨rfl, hk⟩, q⟩ | ⟨h, q⟩
    · exact ⟨(num_facts hk).1, .inl ⟨k, ⟨rfl, hk⟩, q⟩⟩
    · exact ⟨⟨h.1.1, by have := h.1.2; omega⟩, .inr ⟨h, q⟩⟩
  obtain ⟨⟨n1, n2⟩, hx⟩ := sz
  have c1 : decide ((1 : Int) ≤ (x.length : Int)) = true := decide_eq_true (show (1 : Int) ≤ (x.cps.size : Int) by omega)
  have c2 : decide ((x.length : Int) ≤ 9) = true := decide_eq_true (show (x.cps.size : Int) ≤ 9 by omega)
  refine ⟨_, rfl, x, rfl, Nat.le_trans n2 (by decide), _, _, rfl, rfl, _, rfl, ?_⟩
  rw [c1]
  refine ⟨_, rfl, _, _, rfl, rfl, _, rfl, ?_⟩
  rw [c2]
  refine ⟨_, rfl, x, rfl, fun D hD => ?_⟩
  refine lc_it walk_str (fun i H' => Ex H H' ∧ H' D = some (.lst (((x.cps.toList.map fun c => some (V.bl (decide (c ∈ digs)))).take i).filterMap id))) ⟨Ex.new hD, upd_same⟩ (fun _ _ _ _ => trivial) (fun i v H1 H' hi p y => ?_) fun H' p => ?_
  · obtain ⟨rfl, c, hc, rfl⟩ := y
    have hr : (x.cps.toList.map fun c => some (V.bl (decide (c ∈ digs))))[i]? = some (some (V.bl (decide (c ∈ digs)))) := by rw [List.getElem?_map, Array.getElem?_toList, hc]; rfl
    refine lc_turn (r := some (V.bl (decide (c ∈ digs)))) ?_ (Ex.refl H) hD p.1 p.2 (rs_len (by rw [List.length_map, Array.length_toList]; omega)) fun H3 e3 h3 => ⟨e3, by rw [take_rs hr]; exact h3⟩
    intro H1 e1 R kR
    exact ⟨rfl, _, rfl, c, _, rfl, rfl, kR H1 (Ex.refl H1)⟩
  · obtain ⟨e, hH⟩ := p
    rw [List.take_of_length_le (by rw [List.length_map, Array.length_toList]; exact Nat.le_refl _), fm_bl] at hH
    refine ⟨D, _, rfl, sq_of hH, ?_⟩
    rcases hx with ⟨k, ⟨rfl, hk⟩, q⟩ | ⟨h, q⟩
    · obtain ⟨_, f2, f3, c, f4, f5⟩ := num_facts hk
      rw [show ((strOf (.int k)).cps.toList.map fun c => decide (c ∈ digs)).all id = true from List.all_eq_true.mpr fun b hb => by
        obtain ⟨c, hc, rfl⟩ := List.mem_map.mp hb
        exact decide_eq_true (f2 c hc)]
      refine ⟨_, rfl, _, rfl, _, _, c, rfl, rfl, Nat.le_trans n2 (by decide), atI_nat (j := 0) f4, rfl, _, rfl, ?_⟩
      refine iteNS (fun _ => ?_) fun z => ?_
      · exact ⟨_, rfl, _, _, rfl, f3, Nat.le_trans n2 (by decide), q H' e⟩
      · refine ⟨_, rfl, rfl, _, rfl, ?_⟩
        refine iteS (fun _ => ?_) fun z2 => ?_
        · exact ⟨_, rfl, _, _, rfl, f3, Nat.le_trans n2 (by decide), q H' e⟩
        · rcases f5 with f5 | f5
          · exact absurd (congrArg (fun s : Str => s.cps[0]?) z) (fun z3 => f5 (Option.some.inj z3))
          · exact absurd f5 z2
    · rw [show (x.cps.toList.map fun c => decide (c ∈ digs)).all id = false from by
        obtain ⟨c, hc⟩ : ∃ c, c ∈ x.cps.toList := ⟨x.cps[0]'(by omega), Array.mem_toList_iff.mpr (Array.getElem_mem _)⟩
        refine Bool.eq_false_iff.mpr fun z => ?_
        exact nm_not_dig (h.2 c hc) (of_decide_eq_true (List.all_eq_true.mp z _ (List.mem_map.mpr ⟨c, hc, rfl⟩)))]
      exact ⟨_, rfl, q H' e⟩
theorem ok_number_in (T : Txt w K mg) : FR P w K mg base 1 (a_number_in K) (sp_number_in1) := by
  obtain ⟨fd, F⟩ := T.d_number_in
  refine okFr (dvs := [.int 9]) (okF_number_in T F) (F.binds0 1 (fun z => nomatch z) rfl fun D doc pm an cdv ct us ks l1 l2 => ?_)
  obtain ⟨u, rfl⟩ := List.length_eq_one_iff.mp l1
  obtain ⟨z, rfl⟩ := List.length_eq_one_iff.mp l2
  exact ⟨_, _, _, _, _, _, rfl, rfl, rfl⟩
theorem ok_arg_in (T : Txt w K mg) : FR P w K mg base 2 (a_arg_in K) (sp_arg_in) := by
  obtain ⟨fd, F⟩ := T.d_arg_in
  refine mkR F sc_arg_in (fun _ _ _ _ _ _ us hl => match us, hl with | [_], _ => rfl) (fun vs H Q h => by obtain ⟨x, rfl, hx⟩ := h; rfl) fun cdv A outer s H vs Q E hr h => ?_
  obtain ⟨x, rfl, hx⟩ := h
  refine ⟨_, (pss_cons (ps_set (i := 1) sc_arg_in.nd rfl (Or.inl rfl) (pe_callF (ok_number_in (K := K) T) (hr.mono (by omega)) (by rfl) T.g_number_in T.k_number_in (pa_cons (pv 0) pa_nil)))
  (pss_one (ps_ret (pe_ifExp (pt_cmpR op_isN (pv 1) pe_non (nomark _)) (pv 0) (pv 1))))), ?_⟩
  rcases hx with ⟨k, hk, q⟩ | ⟨h, q⟩
  · refine ⟨_, rfl, x, rfl, .inl ⟨k, hk, fun H' e => ?_⟩⟩
    exact ⟨_, rfl, rfl, _, rfl, _, rfl, q H' e⟩
  · refine ⟨_, rfl, x, rfl, .inr ⟨h, fun H' e => ?_⟩⟩
    exact ⟨_, rfl, rfl, _, rfl, _, rfl, q H' e⟩
theorem any_tup {K : PySem.W.Frag} {i : Nat} {g : TG} {tt : TT} {te : TE} {vs : List Nat} {σ : L2.St} {H : Hp} {xs : List V} (h : EvL (tLc (iTup K (tVar i)) g tt te vs) σ H xs) : EvL (tLc (iAny K (tVar i)) g tt te vs) σ H xs := fun H1 e Q q => by
  obtain ⟨v, hv, a, rfl, hs, k⟩ := h H1 e Q q
  exact ⟨_, hv, a, rfl, .inr ⟨hs, k⟩⟩
theorem any_list {K : PySem.W.Frag} {i : Nat} {g : TG} {tt : TT} {te : TE} {vs : List Nat} {σ : L2.St} {H : Hp} {xs : List V} (h : EvL (tLc (iList K (tVar i)) g tt te vs) σ H xs) : EvL (tLc (iAny K (tVar i)) g tt te vs) σ H xs := fun H1 e Q q => by
  obtain ⟨v, hv, a, rfl, hs, k⟩ := h H1 e Q q
  exact ⟨_, hv, a, rfl, .inl ⟨hs, k⟩⟩
theorem newAt {K : PySem.W.Frag} {H : Hp} {x dx C : Addr} (hx : H x = none) (hdx : H dx = none) (hne : dx ≠ x) : NewAt K H (upd (upd H dx (.own x)) x (.ins C dx [])) x C dx :=
  ⟨(Ex.new hdx).trans (Ex.new (by rw [upd_ne hne.symm]; exact hx)), hx, upd_same⟩
theorem NewAt.mono {K : PySem.W.Frag} {H0 H H' : Hp} {x dx C : Addr} (n : NewAt K H0 H x C dx) (e : Ex H H') : NewAt K H0 H' x C dx := ⟨n.1.trans e, n.2.1, e _ _ n.2.2⟩
/-- a word is a number or a name -/
def ArgS (y : Str) (v : V) : Prop := (∃ k, isNum y k ∧ v = .int k) ∨ (isNm y ∧ v = .str y)
theorem ArgS.big {y : Str} {v : V} (h : ArgS y v) : ∃ c ∈ y.cps.toList, 48 ≤ c := by
  rcases h with ⟨k, ⟨rfl, hk⟩, _⟩ | ⟨h, _⟩
  · obtain ⟨_, f2, _, c, f4, _⟩ := num_facts hk
    have hc := List.mem_of_getElem? f4
    exact ⟨c, hc, (show ∀ c ∈ digs, 48 ≤ c by decide +kernel) c (f2 c hc)⟩
  · have hc : y.cps[0]'(by have := h.1.1; omega) ∈ y.cps.toList := Array.mem_toList_iff.mpr (Array.getElem_mem _)
    exact ⟨_, hc, by have := (h.2 _ hc).1; omega⟩
theorem lookup_key {l : List (Str × V)} {y : Str} (h : (l.lookup y).isSome = true) : y ∈ l.map (·.1) := by
  induction l with
  | nil => cases h
  | cons p r ih =>
    obtain ⟨k, v⟩ := p
    rw [List.lookup_cons] at h
    by_cases c : (y == k) = true
    · rw [eq_of_beq c]
      exact List.mem_cons_self
    · rw [Bool.not_eq_true] at c
      rw [c] at h
      exact List.mem_cons_of_mem _ (ih h)
theorem not_sign {y : Str} (h : ∃ c ∈ y.cps.toList, 48 ≤ c) : (tabSIGNS.lookup y).isSome = false := by
  refine Bool.eq_false_iff.mpr fun z => ?_
  obtain ⟨c, h1, h2⟩ := h
  have := (show ∀ x ∈ tabSIGNS.map (·.1), ∀ c ∈ x.cps.toList, c < 48 by decide +kernel) y (lookup_key z) c h1
  omega
theorem arg_num {k : Int} (h : 0 ≤ k ∧ k < 100) : ArgS (strOf (.int k)) (.int k) := .inl ⟨k, ⟨rfl, h⟩, rfl⟩
theorem arg_nm {y : Str} (h : isNm y) : ArgS y (.str y) := .inr ⟨h, rfl⟩
theorem at0 {x : V} {xs : List V} : atI (x :: xs) 0 = some x := atI_nat (j := 0) rfl
theorem at1 {x y : V} {xs : List V} : atI (x :: y :: xs) 1 = some y := atI_nat (j := 1) rfl
theorem paired_hd {α β : Type} {R : α → β → Prop} {x : α} {xs : List α} {ys : List β} (h : Paired R (x :: xs) ys) : ∃ y, R x y := by
  generalize e : x :: xs = l at h
  cases h with
  | nil => cases e
  | cons r t =>
    cases e
    exact ⟨_, r⟩
theorem put_split {NS : List Str} (x : Str) {g : PutG} (wf : g.wf NS) (hNS : ∀ y ∈ NS, isNm y) :
    (∃ a b, putW x g = [x, "=", a, g.deed, b] ∧ (tabSIGNS.lookup g.deed).isSome = true ∧ Paired ArgS [a, b] g.given) ∨
    (∃ ys, putW x g = x :: "=" :: g.deed :: ys ∧ (tabSIGNS.lookup g.deed).isSome = false ∧ Paired ArgS ys g.given) := by
  have pr : ∀ g : PutG, g.wf NS → Paired ArgS (g.given.map strOf) g.given := fun g wf => by
    have z : Paired ArgS (g.given.map strOf) (g.given.map id) := pmap fun v hv => by
      rcases given_each wf hv with ⟨k, rfl, hk⟩ | ⟨y, hy, rfl⟩
      · exact arg_num hk
      · exact arg_nm (hNS y hy)
    rw [List.map_id] at z
    exact z
  cases g with
  | figs ks => exact .inr ⟨_, rfl, by kernel_rfl, pr (.figs ks) wf⟩
  | num k => exact .inr ⟨_, rfl, by kernel_rfl, pr (.num k) wf⟩
  | base => exact .inr ⟨_, rfl, by kernel_rfl, pr .base wf⟩
  | pow a k => exact .inl ⟨_, _, rfl, by kernel_rfl, .cons (arg_nm (hNS a wf.1)) (.cons (arg_num wf.2) .nil)⟩
  | one d a => exact .inr ⟨_, rfl, (show ∀ d ∈ oneD, (tabSIGNS.lookup d).isSome = false by decide +kernel) d wf.1, pr (.one d a) wf⟩
  | kone d k a => exact .inr ⟨_, rfl, (show ∀ d ∈ koneD, (tabSIGNS.lookup d).isSome = false by decide +kernel) d wf.1, pr (.kone d k a) wf⟩
  | two d a b =>
    cases hc : (tabSIGNS.lookup d).isSome with
    | true => exact .inl ⟨a, b, by show x :: "=" :: (if (tabSIGNS.lookup d).isSome = true then _ else _) = _; rw [hc]; rfl, hc, .cons (arg_nm (hNS a wf.2.1)) (.cons (arg_nm (hNS b wf.2.2)) .nil)⟩
    | false => exact .inr ⟨[a, b], by show x :: "=" :: (if (tabSIGNS.lookup d).isSome = true then _ else _) = _; rw [hc]; rfl, hc, .cons (arg_nm (hNS a wf.2.1)) (.cons (arg_nm (hNS b wf.2.2)) .nil)⟩
theorem cut_tail {xs : List V} (n : Nat) (h : n ≤ xs.length) : cutV xs (some (n : Int)) none = xs.drop n := by
  unfold cutV
  rw [HT.sIx_nat, HT.sIx_none, Nat.min_eq_left h, List.take_of_length_le (by rw [List.length_drop]; exact Nat.le_refl _)]
theorem ok_put_in (T : Txt w K mg) : FR P0 w K mg base 8 (a_put_in K) (sp_put_in K NS) := by
  obtain ⟨fd, F⟩ := T.d_put_in
  refine mkR F sc_put_in (fun _ _ _ _ _ _ us hl => match us, hl with | [_], _ => rfl) (fun vs H Q h => by obtain ⟨a, x, g, rfl, ha, ⟨hx, wf, hNS⟩, k⟩ := h; rfl) fun cdv A outer s H vs Q E hr h => ?_
  obtain ⟨a, x, g, rfl, ha, ⟨hx, wf, hNS⟩, k⟩ := h
  refine ⟨_, (pss_cons (ps_set (i := 1) sc_put_in.nd rfl (Or.inl rfl) (pe_slice (ksl_list (K := K) rfl) (pv 0) (po_some pe_int) po_none))
  (pss_cons (ps_if (PW.pt (pw_and (pt_cmpR op_eq (pe_callB (kcall_len (K := K) rfl) (by rfl) T.z_len b_len (pa_cons (pv 1) pa_nil)) pe_int (nomark _)) (pw_and1 (pt_cmpR (op_inKD (K := K) (w := w) rfl rfl) (pe_ix (kix_list (K := K) rfl) (pv 1) pe_int (fun _ _ => rfl)) (pe_glob (v := .ref _) rfl T.g_SIGNS rfl) (by rfl))))) (pss_one (ps_par (i := 2) (j := 3) (by rfl) sc_put_in.nd rfl rfl (by decide) rfl rfl (pa_cons (pe_ix (kix_list (K := K) rfl) (pv 1) pe_int (fun _ _ => rfl)) (pa_cons (pe_tup (pa_cons (pe_ix (kix_list (K := K) rfl) (pv 1) pe_int (fun _ _ => rfl)) (pa_cons (pe_ix (kix_list (K := K) rfl) (pv 1) pe_int (fun _ _ => rfl)) pa_nil))) pa_nil)) (by rfl))) (pss_one (ps_if (PW.pt (pw_and (pt_cmpR op_gt (pe_callB (kcall_len (K := K) rfl) (by rfl) T.z_len b_len (pa_cons (pv 1) pa_nil)) pe_int (nomark _)) (pw_and1 (pt_cmpR (op_niKD (K := K) (w := w) rfl rfl) (pe_ix (kix_list (K := K) rfl) (pv 1) pe_int (fun _ _ => rfl)) (pe_glob (v := .ref _) rfl T.g_SIGNS rfl) (by rfl))))) (pss_one (ps_par (i := 2) (j := 3) (by rfl) sc_put_in.nd rfl rfl (by decide) rfl rfl (pa_cons (pe_ix (kix_list (K := K) rfl) (pv 1) pe_int (fun _ _ => rfl)) (pa_cons (pe_slice (ksl_list (K := K) rfl) (pv 1) (po_some pe_int) po_none) pa_nil)) (by rfl))) (pss_one (ps_ret pe_non)))))
  (pss_cons (ps_try_thru0 (pss_cons (ps_setLc (i := 4) (own := [("word", 6)]) rfl sc_put_in.nd rfl rfl (sw_true rfl rfl rfl (by decide +kernel)) (kpi_any (K := K) rfl (pv 3)) (blkOk_by (own := [("word", 6)]) (N := N_put_in) (sc := defScope s_put_in) (by decide +kernel)) (fun _ _ _ _ _ => (pg_name (i := 6) sc_put_in.nd rfl (Or.inl rfl))) (fun _ _ _ _ _ => pts_nil) (fun _ _ _ _ _ => (pe_callF (ok_arg_in (K := K) T) (hr.mono (by omega)) (by rfl) T.g_arg_in T.k_arg_in (pa_cons (pv 6) pa_nil))))
  (pss_one (ps_set (i := 5) sc_put_in.nd rfl (Or.inl rfl) (pe_makeS2 T.k_Put (ok_Put_init (K := K) (NS := NS) T) (hr.mono (by omega)) (by rfl) T.g_Put (pa_cons (pe_ix (kix_list (K := K) rfl) (pv 0) pe_int (fun _ _ => rfl)) (pa_cons (pv 2) (kstar (K := K) rfl (pv 4) pa_nil))))))))
  (pss_one (ps_ret (pv 5)))))), ?_⟩
  have gl := given_few wf
  have fin : ∀ (ar : Addr) (ys : List Str) (H1 : Hp), Ex H H1 → (SqT K H1 ar (ys.map V.str) ∨ H1 ar = some (.lst (ys.map V.str))) → Paired ArgS ys g.given → ∀ σ : L2.St, σ[0]? = some (some (.ref a)) → σ[2]? = some (some (.str g.deed)) → σ[3]? = some (some (.ref ar)) → σ.length = 7 →
      tSeq (tSeq (tAsg (tLc (iAny K (tVar 3)) (gName 6) tYes (tCallF sp_arg_in (tCons (tVar 6) tNil)) [6]) (gName 4))
          (tAsg (tMakeF (C_Put K) (spStar 3 (sp_Put_init K NS)) (tCons (tOp (rIxL K) (tVar 0) (tC (V.int 0))) (tCons (tVar 2) (StX.tStar K (tVar 4) tNil)))) (gName 5)))
        (tRet (tVar 5)) { nx := fun _ H' => Q .non H', rt := Q } σ H1 := fun ar ys H1 e1 hys pr σ s0 s2 s3 sl => by
    obtain ⟨v0, v1, v2, v3, v4, v5, v6, rfl⟩ : ∃ v0 v1 v2 v3 v4 v5 v6, σ = [v0, v1, v2, v3, v4, v5, v6] := by
      match σ, sl with
      | [v0, v1, v2, v3, v4, v5, v6], _ => exact ⟨_, _, _, _, _, _, _, rfl⟩
    obtain rfl : v0 = _ := Option.some.inj s0
    obtain rfl : v2 = _ := Option.some.inj s2
    obtain rfl : v3 = _ := Option.some.inj s3
    have turn : ∀ (σ' : L2.St) (y : Str) (v : V), σ'.length = 7 → ArgS y v → Turn (gName 6) tYes (tCallF sp_arg_in (tCons (tVar 6) tNil)) [6] σ' H1 (.str y) (some v) := fun σ' y v sl' hy => by
      intro H2 e2 R kR
      refine ⟨?_, ?_⟩
      · match σ', sl' with
        | [v0, v1, v2, v3, v4, v5, v6], _ => rfl
      · match σ', sl' with
        | [v0, v1, v2, v3, v4, v5, v6], _ =>
          refine ⟨_, rfl, y, rfl, ?_⟩
          rcases hy with ⟨k, hk, rfl⟩ | ⟨h, rfl⟩
          · exact .inl ⟨k, hk, fun H3 e3 => kR H3 e3⟩
          · exact .inr ⟨h, fun H3 e3 => kR H3 e3⟩
    have yl : ys.length ≤ 6 := by rw [paired_len pr]; exact gl
    have pr2 : ∀ σ' : L2.St, σ'.length = 7 → Paired (fun z v => Turn (gName 6) tYes (tCallF sp_arg_in (tCons (tVar 6) tNil)) [6] σ' H1 z (some v)) (ys.map V.str) g.given := fun σ' sl' => by
      have z := pmap2 (S := fun z v => Turn (gName 6) tYes (tCallF sp_arg_in (tCons (tVar 6) tNil)) [6] σ' H1 z (some v)) (f := V.str) (h := id) pr fun y v hy => turn σ' y v sl' hy
      rw [List.map_id] at z
      exact z
    refine q_asgL (xs := g.given) ?_ fun wl H2 hq2 e2 h2 => ?_
    · rcases hys with hys | hys
      · exact any_tup (el_lcTM (ev_var rfl) hys (by rw [List.length_map]; omega) (pr2 _ rfl))
      · exact any_list (el_lcLM (ev_var rfl) (sq_of hys) (by rw [List.length_map]; omega) (pr2 _ rfl))
    have e12 := e1.trans e2
    refine ⟨_, rfl, _, _, _, _, rfl, rfl, sq_of (e12 _ _ ha), (show atI ((putW x g).map V.str) 0 = some (.str x) from at0), _, rfl, _, rfl, wl, _, rfl, .inr (sq_of h2), ?_⟩
    intro px dx hpx hdx hne
    have nw := newAt (K := K) (C := C_Put K) hpx hdx hne
    refine ⟨[.ref px, .str x, .str g.deed], g.given, by rw [List.append_nil]; rfl, rfl, Nat.le_trans gl (by decide), fun p hp => ?_⟩
    refine ⟨px, dx, p, x, g, _, rfl, nw.mono (Ex.new hp), .inl (.inl upd_same), ⟨wf, hNS, hx⟩, fun H' e' r => ⟨rfl, ?_⟩⟩
    exact ⟨_, rfl, k px H' (fresh_back e12 hpx) (e12.trans e') r⟩
  refine ⟨_, rfl, 2, rfl, a, _, rfl, sq_of ha, fun q1 hq1 => ?_⟩
  rcases put_split x wf hNS with ⟨y, z, e1, e2, e3⟩ | ⟨ys, e1, e2, e3⟩
  · rw [e1] at ha ⊢
    have x1 := Ex.new (H := H) (o := .lst (cutV ([x, "=", y, g.deed, z].map V.str) (some 2) none)) hq1
    have hl : (upd H q1 (.lst (cutV ([x, "=", y, g.deed, z].map V.str) (some 2) none))) q1 = some (.lst ([y, g.deed, z].map V.str)) := upd_same
    refine ⟨_, rfl, q1, _, rfl, .inl (sq_of hl), rfl, _, rfl, ?_⟩
    refine iteI (fun _ => ?_) fun c => absurd rfl c
    refine ⟨_, rfl, _, _, _, _, rfl, rfl, sq_of hl, rfl, _, _, _, rfl, rfl, kt_SIGNS T, _, rfl, ?_⟩
    rw [e2]
    refine ⟨_, rfl, _, _, _, _, rfl, rfl, sq_of hl, rfl, _, rfl, _, _, _, _, rfl, rfl, sq_of hl, rfl, _, rfl, _, _, _, _, rfl, rfl, sq_of hl, rfl, sz2, fun p hp => ⟨_, _, rfl, ?_⟩⟩
    exact fin p [y, z] _ (x1.trans (Ex.new hp)) (.inl (.inl (.inl upd_same))) e3 _ rfl rfl rfl rfl
  · rw [e1] at ha ⊢
    have x1 := Ex.new (H := H) (o := .lst (cutV ((x :: "=" :: g.deed :: ys).map V.str) (some 2) none)) hq1
    have hl : (upd H q1 (.lst (cutV ((x :: "=" :: g.deed :: ys).map V.str) (some 2) none))) q1 = some (.lst ((g.deed :: ys).map V.str)) := by
      rw [upd_same, show (some 2 : Option Int) = some ((2 : Nat) : Int) from rfl, cut_tail 2 (by rw [List.length_map]; exact Nat.le_add_left _ _)]
      rfl
    have go : tIfS (tAnd (tTest (tOp (rI0 fun i j => V.bl (decide (j < i))) (tCB (rLenS K) (tCons (tVar 1) tNil)) (tC (V.int 0)))) (tTest (tOp (rNiKD K w) (tOp (rIxL K) (tVar 1) (tC (V.int 0))) (tC (V.ref (He.ga K (Str.ofString "SIGNS")))))))
          (tPar 2 3 (tCons (tOp (rIxL K) (tVar 1) (tC (V.int 0))) (tCons (tSl (rSlL K) (tVar 1) (tPart (tC (V.int 1))) tNoPart) tNil))) (tRet (tC V.non))
        { nx := tSeq (tSeq (tAsg (tLc (iAny K (tVar 3)) (gName 6) tYes (tCallF sp_arg_in (tCons (tVar 6) tNil)) [6]) (gName 4)) (tAsg (tMakeF (C_Put K) (spStar 3 (sp_Put_init K NS)) (tCons (tOp (rIxL K) (tVar 0) (tC (V.int 0))) (tCons (tVar 2) (StX.tStar K (tVar 4) tNil)))) (gName 5))) (tRet (tVar 5)) { nx := fun _ H' => Q .non H', rt := Q }, rt := Q } [some (.ref a), some (.ref q1), none, none, none, none, none] (upd H q1 (.lst (cutV ((x :: "=" :: g.deed :: ys).map V.str) (some 2) none))) := by
      refine ⟨_, rfl, q1, _, rfl, .inl (sq_of hl), _, _, rfl, rfl, _, rfl, ?_⟩
      rw [show decide ((0 : Int) < (((g.deed :: ys).map V.str).length : Int)) = true from decide_eq_true (by rw [List.length_map, List.length_cons]; omega)]
      refine ⟨_, rfl, _, _, _, _, rfl, rfl, sq_of hl, (show atI ((g.deed :: ys).map V.str) 0 = some (.str g.deed) from at0), _, _, _, rfl, rfl, kt_SIGNS T, _, rfl, ?_⟩
      rw [e2]
      refine ⟨_, rfl, _, _, _, _, rfl, rfl, sq_of hl, (show atI ((g.deed :: ys).map V.str) 0 = some (.str g.deed) from at0), _, rfl, 1, rfl, q1, _, rfl, sq_of hl, fun p hp => ⟨_, _, rfl, ?_⟩⟩
      refine fin p ys _ (x1.trans (Ex.new hp)) (.inr ?_) e3 _ rfl rfl rfl rfl
      rw [upd_same, show (some 1 : Option Int) = some ((1 : Nat) : Int) from rfl, cut_tail 1 (by rw [List.length_map]; exact Nat.le_add_left _ _)]
      rfl
    refine ⟨_, rfl, q1, _, rfl, .inl (sq_of hl), rfl, _, rfl, ?_⟩
    refine iteI (fun c => ?_) fun c => go
    obtain ⟨y1, y2, rfl⟩ : ∃ y1 y2, ys = [y1, y2] := by
      rw [List.length_map, List.length_cons] at c
      match ys, c with
      | [y1, y2], _ => exact ⟨_, _, rfl⟩
      | [], c => exact absurd (Int.ofNat.inj c) (fun z => nomatch z)
      | [_], c => exact absurd (Int.ofNat.inj c) (fun z => nomatch z)
      | _ :: _ :: _ :: r, c => rw [List.length_cons, List.length_cons, List.length_cons] at c; omega
    refine ⟨_, rfl, _, _, _, _, rfl, rfl, sq_of hl, rfl, _, _, _, rfl, rfl, kt_SIGNS T, _, rfl, ?_⟩
    obtain ⟨v1, h1⟩ := paired_hd e3
    rw [not_sign h1.big]
    exact go
theorem askW_le' {NS : List Str} : ∀ {n : Nat} {t : PT}, t.wf NS n → t.wf NS (n + 1)
  | n, .ask _ _, h => by cases n <;> exact h
  | 0, .not _, h => h.elim
  | n + 1, .not t, h => askW_le' (n := n) (t := t) h
theorem testW_pos : ∀ t : PT, 1 ≤ (testW t).length
  | .ask _ ns => Nat.le_add_left _ _
  | .not _ => Nat.le_add_left _ _
theorem test_step (T : Txt w K mg) (n : Nat) (GT : FR P0 w K mg base (n + 8) (a_test_in K) (sp_test_in K NS n)) : FR P0 w K mg base (n + 9) (a_test_in K) (sp_test_in K NS (n + 1)) := by
  obtain ⟨fd, F⟩ := T.d_test_in
  refine mkR F sc_test_in (fun _ _ _ _ _ _ us hl => match us, hl with | [_], _ => rfl) (fun vs H Q h => by obtain ⟨a, t, rfl, hd, ha, ⟨wf, hNS⟩, k⟩ := h; rfl) fun cdv A outer s H vs Q E hr h => ?_
  obtain ⟨a, t, rfl, hd, ha, ⟨wf, hNS⟩, k⟩ := h
  refine ⟨_, (pss_cons (ps_if (pt_cmpR op_eq (pe_callB (kcall_len (K := K) rfl) (by rfl) T.z_len b_len (pa_cons (pv 0) pa_nil)) pe_int (nomark _)) (pss_one (ps_ret pe_non)) pss_nil)
  (pss_cons (ps_if (PW.pt (pw_and (pt_cmpR op_gt (pe_callB (kcall_len (K := K) rfl) (by rfl) T.z_len b_len (pa_cons (pv 0) pa_nil)) pe_int (nomark _)) (pw_and1 (pt_cmpR op_eq (pe_ix (kix_list (K := K) rfl) (pv 0) pe_int (fun _ _ => rfl)) pe_str (nomark _))))) (pss_cons (ps_set (i := 1) sc_test_in.nd rfl (Or.inl rfl) (pe_callF (GT) (hr.mono (by omega)) (by rfl) T.g_test_in T.k_test_in (pa_cons (pe_slice (ksl_list (K := K) rfl) (pv 0) (po_some pe_int) po_none) pa_nil)))
  (pss_one (ps_ret (pe_ifExp (pt_cmpR op_isN (pv 1) pe_non (nomark _)) pe_non (pe_makeF T.k_Not (ok_Not_init (K := K) (NS := NS) T) (hr.mono (by omega)) (by rfl) T.g_Not (pa_cons (pv 1) pa_nil)))))) pss_nil)
  (pss_cons (ps_try_thru0 (pss_one (ps_set (i := 2) sc_test_in.nd rfl (Or.inl rfl) (kmakeS1 (K := K) rfl T.k_Ask (ok_Ask_init (K := K) (NS := NS) T) (hr.mono (by omega)) (by rfl) T.g_Ask (pv 0)))))
  (pss_one (ps_ret (pv 2)))))), ?_⟩
  cases t with
  | ask word ns =>
    have hw := wf.1
    have ln : ns.length = askW word := wf.2.1
    have a2 : askW word ≤ 2 := by unfold askW; split <;> decide
    have fin : tSeq (tAsg (tMakeS1 K (C_Ask K) (spStar 2 (sp_Ask_init K NS)) (tVar 0)) (gName 2)) (tRet (tVar 2)) { nx := fun _ H' => Q .non H', rt := Q } [some (.ref a), none, none] H := by
      refine ⟨_, rfl, a, _, rfl, .inr (sq_of ha), fun px dx hpx hdx hne => ?_⟩
      have nw := newAt (K := K) (C := C_Ask K) hpx hdx hne
      refine ⟨[.ref px, .str word], ns.map V.str, rfl, rfl, Nat.le_trans (show _ ≤ 2 by rw [List.length_map]; omega) (by decide), fun p hp => ?_⟩
      refine ⟨px, dx, p, word, ns, _, rfl, nw.mono (Ex.new hp), .inl (.inl upd_same), ⟨wf, hNS⟩, fun H' e' r => ⟨rfl, ?_⟩⟩
      exact ⟨_, rfl, k px H' hpx e' r⟩
    refine ⟨_, rfl, a, _, rfl, .inl (sq_of ha), rfl, _, rfl, ?_⟩
    refine iteI (fun c => ?_) fun _ => ?_
    · rw [List.length_map] at c
      exact absurd c (by show ¬ ((ns.length + 1 : Nat) : Int) = 0; omega)
    refine ⟨_, rfl, a, _, rfl, .inl (sq_of ha), _, _, rfl, rfl, _, rfl, ?_⟩
    refine iteD (fun _ => ?_) fun _ => fin
    refine ⟨_, rfl, _, _, _, _, rfl, rfl, sq_of ha, (show atI ((word :: ns).map V.str) 0 = some (.str word) from at0), rfl, _, rfl, ?_⟩
    refine iteS (fun c => ?_) fun _ => fin
    subst c
    exact absurd hw (by decide +kernel)
  | not t =>
    have wf3 : t.wf NS 3 := wf
    have wf4 : t.wf NS 4 := askW_le' wf3
    refine ⟨_, rfl, a, _, rfl, .inl (sq_of ha), rfl, _, rfl, ?_⟩
    refine iteI (fun c => ?_) fun _ => ?_
    · rw [List.length_map] at c
      exact absurd c (by show ¬ (((testW t).length + 1 : Nat) : Int) = 0; omega)
    refine ⟨_, rfl, a, _, rfl, .inl (sq_of ha), _, _, rfl, rfl, _, rfl, ?_⟩
    rw [show decide ((1 : Int) < ((((testW (.not t)).map V.str).length : Nat) : Int)) = true from decide_eq_true (by rw [List.length_map]; show (1 : Int) < (((testW t).length + 1 : Nat) : Int); have := testW_pos t; omega)]
    refine ⟨_, rfl, _, _, _, _, rfl, rfl, sq_of ha, (show atI ((Str.ofString "not" :: testW t).map V.str) 0 = some (.str (Str.ofString "not")) from at0), rfl, _, rfl, ?_⟩
    refine iteS (fun c => ?_) fun c => absurd rfl c
    refine ⟨_, rfl, 1, rfl, a, _, rfl, sq_of ha, fun q1 hq1 => ?_⟩
    have x1 := Ex.new (H := H) (o := .lst (cutV ((testW (.not t)).map V.str) (some 1) none)) hq1
    have hl : (upd H q1 (.lst (cutV ((testW (.not t)).map V.str) (some 1) none))) q1 = some (.lst ((testW t).map V.str)) := by
      rw [upd_same, show (some 1 : Option Int) = some ((1 : Nat) : Int) from rfl, cut_tail 1 (by rw [List.length_map]; exact Nat.le_add_left _ _)]
      rfl
    refine ⟨q1, t, rfl, Nat.lt_of_succ_lt_succ hd, hl, ⟨wf4, hNS⟩, fun p1 H2 hp1 e2 ht => ?_⟩
    refine ⟨_, rfl, rfl, _, rfl, ?_⟩
    refine ⟨_, rfl, fun px dx hpx hdx hne => ?_⟩
    have nw := newAt (K := K) (C := C_Not K) hpx hdx hne
    refine ⟨px, dx, _, t, H2, rfl, nw, ⟨ht, wf4⟩, fun H' e' r => ⟨rfl, ?_⟩⟩
    exact k px H' (fresh_back (x1.trans e2) hpx) ((x1.trans e2).trans e') r
end
end E97
set_option Elab.async false
set_option linter.all false
set_option maxRecDepth 100000
set_option maxHeartbeats 4000000
/-! P10: a line's head, a line's row -/
namespace E97
open PySem PySem.Spec PyProof.Rows L2 Evl NdefX
/-- a word of a line -/
def Wd (w : Str) : Prop := (∀ c ∈ w.cps.toList, 33 ≤ c ∧ c < 128) ∧ w.cps.size ≤ 8
theorem wd_nm {y : Str} (h : isNm y) : Wd y := ⟨fun c hc => by have := h.2 c hc; omega, Nat.le_trans h.1.2 (by decide)⟩
theorem wd_num {k : Int} (h : 0 ≤ k ∧ k < 100) : Wd (strOf (.int k)) :=
  ⟨fun c hc => by exact (show ∀ c ∈ digs, 33 ≤ c ∧ c < 128 by decide +kernel) c ((num_facts h).2.1 c hc), Nat.le_trans (nat_str h).1 (by decide)⟩
theorem wd_by {l : List Str} (h : (l.all fun w => w.cps.toList.all (fun c => decide (33 ≤ c ∧ c < 128)) && decide (w.cps.size ≤ 8)) = true) {w : Str} (hw : w ∈ l) : Wd w := by
  obtain ⟨h1, h2⟩ := (Bool.and_eq_true _ _).mp (List.all_eq_true.mp h w hw)
  exact ⟨fun c hc => of_decide_eq_true (List.all_eq_true.mp h1 c hc), of_decide_eq_true h2⟩
theorem wd_deed {NS : List Str} {g : PutG} (wf : g.wf NS) : Wd g.deed := by
  cases g with
  | figs ks => exact wd_by (l := ["figures"]) (by decide +kernel) (List.mem_singleton.mpr rfl)
  | num k => exact wd_by (l := ["number"]) (by decide +kernel) (List.mem_singleton.mpr rfl)
  | base => exact wd_by (l := ["base"]) (by decide +kernel) (List.mem_singleton.mpr rfl)
  | pow x k => exact wd_by (l := ["**"]) (by decide +kernel) (List.mem_singleton.mpr rfl)
  | one d x => exact wd_by (l := oneD) (by decide +kernel) wf.1
  | kone d k x => exact wd_by (l := koneD) (by decide +kernel) wf.1
  | two d x y => exact wd_by (l := twoD) (by decide +kernel) wf.1
theorem wd_args {ys : List Str} {vs : List V} (h : Paired ArgS ys vs) : ∀ y ∈ ys, Wd y := by
  intro y hy
  obtain ⟨v, hv⟩ : ∃ v, ArgS y v := by
    induction h with
    | nil => cases hy
    | cons r t ih =>
      rcases List.mem_cons.mp hy with rfl | hy
      · exact ⟨_, r⟩
      · exact ih hy
  rcases hv with ⟨k, ⟨rfl, hk⟩, _⟩ | ⟨h, _⟩
  · exact wd_num hk
  · exact wd_nm h
theorem wd_test {NS : List Str} (hNS : ∀ y ∈ NS, isNm y) : ∀ {n : Nat} {t : PT}, t.wf NS n → (∀ w ∈ testW t, Wd w) ∧ (testW t).length ≤ n + 3
  | n, .ask word ns, h => by
    have h : (PT.ask word ns).wf NS 0 := by cases n <;> exact h
    have l := h.2.1
    refine ⟨fun w hw => ?_, ?_⟩
    · rcases List.mem_cons.mp hw with rfl | hw
      · exact wd_by (l := ["same", "less", "divides", "mirrored", "unlike"]) (by decide +kernel) h.1
      · exact wd_nm (hNS w (h.2.2 w hw))
    · show ns.length + 1 ≤ n + 3
      unfold askW at l
      split at l <;> omega
  | 0, .not t, h => h.elim
  | n + 1, .not t, h => by
    obtain ⟨h1, h2⟩ := wd_test hNS (n := n) (t := t) h
    refine ⟨fun w hw => ?_, ?_⟩
    · rcases List.mem_cons.mp hw with rfl | hw
      · exact wd_by (l := ["not"]) (by decide +kernel) (List.mem_singleton.mpr rfl)
      · exact h1 w hw
    · show (testW t).length + 1 ≤ n + 1 + 3
      omega
theorem wd_tk {NS : List Str} (hNS : ∀ y ∈ NS, isNm y) {t : Tk} (wf : t.wf NS) : (∀ w ∈ tkW t, Wd w) ∧ 1 ≤ (tkW t).length ∧ (tkW t).length ≤ 9 := by
  cases t with
  | put x g =>
    have eq : Wd "=" := wd_by (l := ["="]) (by decide +kernel) (List.mem_singleton.mpr rfl)
    have gl := given_few wf.2
    show (∀ w ∈ putW x g, Wd w) ∧ 1 ≤ (putW x g).length ∧ (putW x g).length ≤ 9
    rcases put_split x wf.2 hNS with ⟨y, z, e1, e2, e3⟩ | ⟨ys, e1, e2, e3⟩
    · rw [e1]
      have w3 := wd_args e3
      refine ⟨fun w hw => ?_, (show 1 ≤ 5 by decide), (show 5 ≤ 9 by decide)⟩
      simp only [List.mem_cons, List.not_mem_nil, or_false] at hw
      rcases hw with rfl | rfl | rfl | rfl | rfl
      · exact wd_nm (hNS _ wf.1)
      · exact eq
      · exact w3 _ List.mem_cons_self
      · exact wd_deed wf.2
      · exact w3 _ (List.mem_cons_of_mem _ List.mem_cons_self)
    · rw [e1]
      have w3 := wd_args e3
      have yl := paired_len e3
      refine ⟨fun w hw => ?_, Nat.le_add_left _ _, by show ys.length + 3 ≤ 9; omega⟩
      rcases List.mem_cons.mp hw with rfl | hw
      · exact wd_nm (hNS _ wf.1)
      rcases List.mem_cons.mp hw with rfl | hw
      · exact eq
      rcases List.mem_cons.mp hw with rfl | hw
      · exact wd_deed wf.2
      · exact w3 _ hw
  | stop => exact ⟨fun w hw => wd_by (l := ["stop"]) (by decide +kernel) hw, by decide, by decide⟩
  | els => exact ⟨fun w hw => wd_by (l := ["else"]) (by decide +kernel) hw, by decide, by decide⟩
  | fin => exact ⟨fun w hw => wd_by (l := ["end"]) (by decide +kernel) hw, by decide, by decide⟩
  | times n =>
    have hn : n ≤ 4 := wf
    refine ⟨fun w hw => ?_, (show 1 ≤ 2 by decide), (show 2 ≤ 9 by decide)⟩
    rcases List.mem_cons.mp hw with rfl | hw
    · exact wd_by (l := ["times"]) (by decide +kernel) (List.mem_singleton.mpr rfl)
    · rw [List.mem_singleton.mp hw]
      exact wd_num (k := (n : Int)) (by omega)
  | iff t =>
    obtain ⟨h1, h2⟩ := wd_test hNS (n := 4) (t := t) wf
    refine ⟨fun w hw => ?_, Nat.le_add_left _ _, (show (testW t).length + 1 ≤ 9 by omega)⟩
    rcases List.mem_cons.mp hw with rfl | hw
    · exact wd_by (l := ["if"]) (by decide +kernel) (List.mem_singleton.mpr rfl)
    · exact h1 w hw
theorem line_len {NS : List Str} (hNS : ∀ y ∈ NS, isNm y) {t : Tk} (wf : t.wf NS) : (tkLine t).length ≤ 100 := by
  obtain ⟨h1, h2, h3⟩ := wd_tk hNS wf
  have e : tkLine t = PySem.Str.join " " (tkW t) := TL.join_eq " " (tkW t)
  rw [e]
  refine Nat.le_trans (PySem.StrLaws.join_length_le _ _) ?_
  have s := sum_le (m := 8) (ys := tkW t) fun y hy => (h1 y hy).2
  have l2 : (Str.ofString " ").length = 1 := by decide +kernel
  rw [l2]
  omega
theorem line_split {NS : List Str} (hNS : ∀ y ∈ NS, isNm y) {t : Tk} (wf : t.wf NS) : Txt.split (tkLine t) " " = tkW t := by
  obtain ⟨h1, h2, h3⟩ := wd_tk hNS wf
  refine TL.split_join (y := " ") (s := 32) (S := []) rfl (by decide +kernel) (fun e => by rw [e] at h2; exact absurd h2 (by decide)) fun p hp h => ?_
  have := ((h1 p hp).1 32 h).1
  omega
section
variable {P : Program} {w : World} {K : PySem.W.Frag} {mg : Str → Option Value} {base : Heap} {NS : List Str}
theorem test_all (T : Txt w K mg) : ∀ n, FR P0 w K mg base (n + 8) (a_test_in K) (sp_test_in K NS n)
  | 0 => FR.never fun vs H Q ⟨_, _, _, h, _⟩ => absurd h (Nat.not_lt_zero _)
  | n + 1 => test_step T n (test_all T n)
theorem wf_depth {NS : List Str} : ∀ {n : Nat} {t : PT}, t.wf NS n → t.depth ≤ n
  | n, .ask _ _, _ => Nat.zero_le _
  | 0, .not _, h => h.elim
  | n + 1, .not t, h => Nat.succ_le_succ (wf_depth (n := n) (t := t) h)
theorem ok_test_in (T : Txt w K mg) : FR P0 w K mg base 13 (a_test_in K) (sp_test_in K NS 5) := test_all T 5
theorem words_eq (ws us : List Str) : PyData.eqvAll (ws.map .str) (us.map .str) = decide (ws = us) := by
  induction ws generalizing us with
  | nil => cases us <;> simp [PyData.eqvAll]
  | cons w r ih =>
    cases us with
    | nil => simp [PyData.eqvAll]
    | cons u q =>
      rw [List.map_cons, List.map_cons, PyData.eqvAll, ih q, PyData.eqv]
      by_cases c : w = u
      · subst c; simp
      · simp [c]
theorem dp_strs {H : Hp} : ∀ ws : List Str, DpAll K H (ws.map V.str) (ws.map .str)
  | [] => .nil
  | w :: r => .cons (.str w) (dp_strs r)
theorem depth_strs : ∀ ws : List Str, PyData.depthAll (ws.map .str) = 0
  | [] => rfl
  | w :: r => by
    rw [List.map_cons, PyData.depthAll, depth_strs r]
    rfl
theorem shaped_strs {ws : List Str} (h : ∀ w ∈ ws, Wd w) : SeqAt.shaped (.list (ws.map .str)) = true := by
  refine (Bool.and_eq_true _ _).mpr ⟨?_, decide_eq_true ?_⟩
  · show PyData.canLayAll0 (ws.map .str) = true
    rw [canLayAll_strs']
    refine List.all_eq_true.mpr fun w hw => ?_
    refine Array.all_eq_true_iff_forall_mem.mpr fun c hc => decide_eq_true ?_
    have := ((h w hw).1 c (Array.mem_toList_iff.mpr hc)).2
    omega
  · show PyData.depthAll (ws.map .str) + 1 ≤ 64
    rw [depth_strs]
    decide
theorem list_eqv (ws us : List Str) : PyData.eqv (.list (ws.map .str)) (.list (us.map .str)) = decide (ws = us) := by
  rw [PyData.eqv, words_eq]
theorem ok_single_in (T : Txt w K mg) : FR P0 w K mg base 9 (a_single_in K) (sp_single_in K NS) := by
  obtain ⟨fd, F⟩ := T.d_single_in
  refine mkR F sc_single_in (fun _ _ _ _ _ _ us hl => match us, hl with | [_], _ => rfl) (fun vs H Q h => by obtain ⟨t, rfl, ⟨wf, hNS⟩, k⟩ := h; rfl) fun cdv A outer s H vs Q E hr h => ?_
  obtain ⟨t, rfl, ⟨wf, hNS⟩, k⟩ := h
  refine ⟨_, (pss_cons (ps_set (i := 1) sc_single_in.nd rfl (Or.inl rfl) (pe_split (pv 0) pe_str))
  (pss_cons (ps_if (PW.pt (pw_and (pt_cmpR op_gt (pe_callB (kcall_len (K := K) rfl) (by rfl) T.z_len b_len (pa_cons (pv 1) pa_nil)) pe_int (nomark _)) (pw_and1 (pt_cmpR op_eq (pe_ix (kix_list (K := K) rfl) (pv 1) pe_int (fun _ _ => rfl)) pe_str (nomark _))))) (pss_one (ps_ret (pe_callF (ok_put_in (K := K) (NS := NS) T) (hr.mono (by omega)) (by rfl) T.g_put_in T.k_put_in (pa_cons (pv 1) pa_nil)))) pss_nil)
  (pss_one (ps_ret (pe_ifExp (pt_cmpR (kop_eqD (K := K) rfl hr.units) (pv 1) (pe_lst (pa_cons pe_str pa_nil)) (nomark _)) (pe_makeF0 T.k_Stop (ok_Stop_init (K := K) (NS := NS) T) (hr.mono (by omega)) (by rfl) T.g_Stop) pe_non))))), ?_⟩
  obtain ⟨w1, w2, w3⟩ := wd_tk hNS wf
  refine ⟨_, rfl, ⟨_, rfl⟩, _, " ", rfl, rfl, by decide +kernel, Nat.le_trans (Nat.add_le_add_right (line_len hNS wf) 2) (by decide), fun q1 hq1 => ?_⟩
  rw [line_split hNS wf]
  have x1 := Ex.new (H := H) (o := .lst ((tkW t).map V.str)) hq1
  have hl : (upd H q1 (.lst ((tkW t).map V.str))) q1 = some (.lst ((tkW t).map V.str)) := upd_same
  have fin : tRet (tIf (tTest (tOp (rEqD K) (tVar 1) (tLst (tCons (tC (V.str (Str.ofString "stop"))) tNil)))) (tMakeF (C_Stop K) (sp_Stop_init K NS) tNil) (tC V.non)) { nx := fun _ H' => Q .non H', rt := Q } [some (.str (tkLine t)), some (.ref q1)] (upd H q1 (.lst ((tkW t).map V.str))) ∨ ∃ x g, t = .put x g := by
    by_cases hp : ∃ x g, t = .put x g
    · exact .inr hp
    refine .inl ?_
    refine ⟨_, rfl, (show 1 ≤ sizeLine by decide), fun q2 hq2 => ?_⟩
    have x2 := Ex.new (o := .lst [V.str (Str.ofString "stop")]) hq2
    refine ⟨.list ((tkW t).map .str), .list ([Str.ofString "stop"].map .str), .lst (sq_of (x2 _ _ hl)) (dp_strs _), .lst (sq_of upd_same) (dp_strs [Str.ofString "stop"]), shaped_strs w1, by decide +kernel, _, rfl, ?_⟩
    rw [list_eqv]
    refine iteD (fun c => ?_) fun c => ?_
    · have e : t = .stop := by
        cases t with
        | put x g => exact absurd ⟨x, g, rfl⟩ hp
        | stop => rfl
        | times n => exact absurd (congrArg List.length c) (show ¬ 2 = 1 by decide)
        | iff t => exact absurd (congrArg List.length c) (by have := testW_pos t; show ¬ (testW t).length + 1 = 1; omega)
        | els => exact absurd c (by decide +kernel)
        | fin => exact absurd c (by decide +kernel)
      subst e
      intro px dx hpx hdx hne
      exact ⟨px, dx, _, rfl, newAt hpx hdx hne, fun H' e' r => ⟨rfl, k px H' (fresh_back (x1.trans x2) hpx) ((x1.trans x2).trans e') r⟩⟩
    · have k2 : ∀ H', Ex H H' → Q .non H' := by
        cases t with
        | put x g => exact absurd ⟨x, g, rfl⟩ hp
        | stop => exact absurd rfl c
        | times n => exact k
        | iff t => exact k
        | els => exact k
        | fin => exact k
      exact k2 _ (x1.trans x2)
  refine ⟨_, rfl, q1, _, rfl, .inl (sq_of hl), _, _, rfl, rfl, _, rfl, ?_⟩
  cases t with
  | put x g =>
    refine iteD (fun _ => ?_) fun c => absurd (show (1 : Int) < (((putW x g).map V.str).length : Int) by rw [List.length_map]; show (1 : Int) < ((_ + 1 + 1 : Nat) : Int); omega) c
    refine ⟨_, rfl, _, _, _, _, rfl, rfl, sq_of hl, (show atI ((putW x g).map V.str) 1 = some (.str "=") from at1), rfl, _, rfl, ?_⟩
    refine iteS (fun _ => ?_) fun c => absurd rfl c
    refine ⟨_, rfl, q1, x, g, rfl, hl, ⟨wf.1, wf.2, hNS⟩, fun p H' hp e r => ?_⟩
    exact k p H' (fresh_back x1 hp) (x1.trans e) r
  | stop => exact fin.resolve_right fun ⟨_, _, z⟩ => nomatch z
  | els => exact fin.resolve_right fun ⟨_, _, z⟩ => nomatch z
  | fin => exact fin.resolve_right fun ⟨_, _, z⟩ => nomatch z
  | times n =>
    refine ⟨_, rfl, _, _, _, _, rfl, rfl, sq_of hl, (show atI ([Str.ofString "times", numS n].map V.str) 1 = some (.str (numS n)) from at1), rfl, _, rfl, ?_⟩
    refine iteS (fun c => ?_) fun _ => fin.resolve_right fun ⟨_, _, z⟩ => nomatch z
    have hn : n ≤ 4 := wf
    obtain ⟨_, _, _, d, f4, _⟩ := num_facts (k := (n : Int)) (by omega)
    have f2 := (num_facts (k := (n : Int)) (by omega)).2.1 d (List.mem_of_getElem? f4)
    have f4' : (numS n).cps.toList[0]? = some d := f4
    rw [c] at f4'
    cases f4'
    exact absurd f2 (by decide +kernel)
  | iff t =>
    obtain ⟨h, r, e, he⟩ : ∃ h r, testW t = h :: r ∧ h ≠ "=" := by
      cases t with
      | ask word ns => exact ⟨_, _, rfl, fun e => by subst e; exact absurd wf.1 (by decide +kernel)⟩
      | not t => exact ⟨_, _, rfl, by decide +kernel⟩
    refine iteD (fun _ => ?_) fun _ => fin.resolve_right fun ⟨_, _, z⟩ => nomatch z
    refine ⟨_, rfl, _, _, _, _, rfl, rfl, sq_of hl, (show atI ((Str.ofString "if" :: testW t).map V.str) 1 = some (.str h) from by rw [e]; exact at1), rfl, _, rfl, ?_⟩
    exact iteS (fun c => absurd c he) fun _ => fin.resolve_right fun ⟨_, _, z⟩ => nomatch z
theorem ok_head_in (T : Txt w K mg) : FR P0 w K mg base 14 (a_head_in K) (sp_head_in K NS) := by
  obtain ⟨fd, F⟩ := T.d_head_in
  refine mkR F sc_head_in (fun _ _ _ _ _ _ us hl => match us, hl with | [_], _ => rfl) (fun vs H Q h => by obtain ⟨t, rfl, ⟨wf, hNS⟩, k⟩ := h; rfl) fun cdv A outer s H vs Q E hr h => ?_
  obtain ⟨t, rfl, ⟨wf, hNS⟩, k⟩ := h
  refine ⟨_, (pss_cons (ps_set (i := 1) sc_head_in.nd rfl (Or.inl rfl) (pe_split (pv 0) pe_str))
  (pss_cons (ps_if (PW.pt (pw_and (pt_cmpR op_eq (pe_ix (kix_list (K := K) rfl) (pv 1) pe_int (fun _ _ => rfl)) pe_str (nomark _)) (pw_and1 (pt_cmpR op_gt (pe_callB (kcall_len (K := K) rfl) (by rfl) T.z_len b_len (pa_cons (pv 1) pa_nil)) pe_int (nomark _))))) (pss_one (ps_ret (pe_callF (ok_test_in (K := K) (NS := NS) T) (hr.mono (by omega)) (by rfl) T.g_test_in T.k_test_in (pa_cons (pe_slice (ksl_list (K := K) rfl) (pv 1) (po_some pe_int) po_none) pa_nil)))) pss_nil)
  (pss_cons (ps_if (PW.pt (pw_and (pt_cmpR op_eq (pe_ix (kix_list (K := K) rfl) (pv 1) pe_int (fun _ _ => rfl)) pe_str (nomark _)) (pw_and1 (pt_cmpR op_eq (pe_callB (kcall_len (K := K) rfl) (by rfl) T.z_len b_len (pa_cons (pv 1) pa_nil)) pe_int (nomark _))))) (pss_one (ps_ret (pe_callF (ok_number_in (K := K) T) (hr.mono (by omega)) (by rfl) T.g_number_in T.k_number_in (pa_cons (pe_ix (kix_list (K := K) rfl) (pv 1) pe_int (fun _ _ => rfl)) pa_nil)))) pss_nil)
  (pss_one (ps_ret pe_non))))), ?_⟩
  refine ⟨_, rfl, ⟨_, rfl⟩, _, " ", rfl, rfl, by decide +kernel, Nat.le_trans (Nat.add_le_add_right (line_len hNS wf) 2) (by decide), fun q1 hq1 => ?_⟩
  rw [line_split hNS wf]
  have x1 := Ex.new (H := H) (o := .lst ((tkW t).map V.str)) hq1
  have hl : (upd H q1 (.lst ((tkW t).map V.str))) q1 = some (.lst ((tkW t).map V.str)) := upd_same
  cases t with
  | put x g => exact k.elim
  | stop => exact k.elim
  | els => exact k.elim
  | fin => exact k.elim
  | times n =>
    have hn : n ≤ 4 := wf
    refine ⟨_, rfl, _, _, _, _, rfl, rfl, sq_of hl, (show atI ([Str.ofString "times", numS n].map V.str) 0 = some (.str "times") from at0), rfl, _, rfl, ?_⟩
    refine iteS (fun c => absurd c (by decide +kernel)) fun _ => ?_
    refine ⟨_, rfl, _, _, _, _, rfl, rfl, sq_of hl, (show atI ([Str.ofString "times", numS n].map V.str) 0 = some (.str "times") from at0), rfl, _, rfl, ?_⟩
    refine iteS (fun _ => ?_) fun c => absurd rfl c
    refine ⟨_, rfl, q1, _, rfl, .inl (sq_of hl), rfl, _, rfl, ?_⟩
    refine iteI (fun _ => ?_) fun c => absurd rfl c
    refine ⟨_, rfl, _, _, _, _, rfl, rfl, sq_of hl, (show atI ([Str.ofString "times", numS n].map V.str) 1 = some (.str (numS n)) from at1), numS n, rfl, .inl ⟨n, ⟨rfl, by omega⟩, fun H' e => k H' (x1.trans e)⟩⟩
  | iff t =>
    refine ⟨_, rfl, _, _, _, _, rfl, rfl, sq_of hl, (show atI ((Str.ofString "if" :: testW t).map V.str) 0 = some (.str "if") from at0), rfl, _, rfl, ?_⟩
    refine iteS (fun _ => ?_) fun c => absurd rfl c
    refine ⟨_, rfl, q1, _, rfl, .inl (sq_of hl), _, _, rfl, rfl, _, rfl, ?_⟩
    refine iteD (fun _ => ?_) fun c => absurd (by rw [List.length_map]; show (1 : Int) < (((testW t).length + 1 : Nat) : Int); have := testW_pos t; omega) c
    refine ⟨_, rfl, 1, rfl, q1, _, rfl, sq_of hl, fun q2 hq2 => ?_⟩
    have e : cutV ((tkW (.iff t)).map V.str) (some 1) none = (testW t).map V.str := by
      rw [show (some 1 : Option Int) = some ((1 : Nat) : Int) from rfl, cut_tail 1 (by rw [List.length_map]; exact Nat.le_add_left _ _)]
      rfl
    rw [e]
    have x2 := Ex.new (o := .lst ((testW t).map V.str)) hq2
    exact ⟨q2, t, rfl, Nat.lt_succ_of_le (wf_depth (n := 4) (t := t) wf), upd_same, ⟨wf, hNS⟩, fun p H' hp e' r => k p H' (fresh_back (x1.trans x2) hp) ((x1.trans x2).trans e') r⟩
end
end E97
set_option Elab.async false
set_option linter.all false
set_option maxRecDepth 100000
set_option maxHeartbeats 4000000
/-! P11: blocks, the parser's machine -/
namespace E97
open PySem PySem.Spec PyProof.Rows L2 Evl NdefX
/-! ### what a row leans on: tuples, rows, tests -/
def immO : HO → Bool
  | .tup _ => true
  | .frz _ (.tup _) => true
  | .ins _ _ ((k, _) :: _) => decide (k = "lines" ∨ k = "text" ∨ k = "count" ∨ k = "test")
  | _ => false
def imm (H : Hp) : Hp := fun a => match H a with
  | some o => if immO o = true then some o else none
  | none => none
theorem imm_of {H : Hp} {a : Addr} {o : HO} (h : H a = some o) (ho : immO o = true) : imm H a = some o := by
  unfold imm
  rw [h]
  exact if_pos ho
theorem imm_ex (H : Hp) : Ex (imm H) H := fun a o h => by
  unfold imm at h
  cases e : H a with
  | none => rw [e] at h; cases h
  | some u =>
    rw [e] at h
    dsimp only at h
    split at h
    · exact h
    · cases h
theorem imm_upd {H : Hp} {a : Addr} {u o : HO} (h : H a = some u) (hu : immO u = false) (ho : immO o = false) : imm (upd H a o) = imm H := by
  funext b
  unfold imm
  by_cases e : b = a
  · subst e
    rw [upd_same, h]
    dsimp only
    rw [hu, ho]
    rfl
  · rw [upd_ne e]
section
variable {K : PySem.W.Frag} {NS : List Str} {H H' : Hp}
theorem imm_t {a : Addr} {xs : List V} (h : SqT K H a xs) : SqT K (imm H) a xs := by
  rcases h with (h | ⟨o, h⟩) | h
  · exact .inl (.inl (imm_of h rfl))
  · exact .inl (.inr ⟨o, imm_of h rfl⟩)
  · exact .inr h
theorem TestAt.imm : ∀ {t : PT} {v : V}, TestAt K NS H v t → TestAt K NS (imm H) v t
  | .ask word ns, v, ⟨a, dx, u, n, txt, h1, h2, h3, h4, h5⟩ => ⟨a, dx, u, n, txt, h1, imm_of h2 (by kernel_rfl), imm_t h3, imm_t h4, h5⟩
  | .not t, v, ⟨a, dx, u, txt, v', us, h1, h2, h3, h4, h5, h6⟩ => ⟨a, dx, u, txt, v', us, h1, imm_of h2 (by kernel_rfl), imm_t h3, h4, h5, TestAt.imm h6⟩
theorem RowP.imm {n : Nat} {l i u : Addr} {vs : List V} (h : RowP K NS H n l i u vs) : RowP K NS (imm H) n l i u vs :=
  ⟨let ⟨ls, h1, h2⟩ := h.lines; ⟨ls, imm_t h1, h2⟩, imm_t h.inner, let ⟨us, h1, h2⟩ := h.used; ⟨us, imm_t h1, h2⟩⟩
theorem RowAt.imm : ∀ {d : Nat} {v : V} {r : Rw d}, RowAt K NS d H v r → RowAt K NS d (imm H) v r
  | 0, _, r, _ => nomatch r
  | d + 1, v, r, h => by
    cases r with
    | put x g =>
      obtain ⟨a, dx, l, i, u, gv, h1, h2, h3, h4⟩ := h
      exact ⟨a, dx, l, i, u, gv, h1, imm_of h2 (by kernel_rfl), h3.imm, imm_t h4⟩
    | stop =>
      obtain ⟨a, dx, l, i, u, h1, h2, h3⟩ := h
      exact ⟨a, dx, l, i, u, h1, imm_of h2 (by kernel_rfl), h3.imm⟩
    | times n rs =>
      obtain ⟨a, dx, ra, l, i, u, vs, h1, h2, h3, h4, h5⟩ := h
      exact ⟨a, dx, ra, l, i, u, vs, h1, imm_of h2 (by kernel_rfl), h3.imm, imm_t h4, Paired.mapP h5 fun a b z => RowAt.imm z⟩
    | ife t rs os =>
      obtain ⟨a, dx, ra, oa, l, i, u, tv, vs, ws, h1, h2, h3, h4, ⟨h5, h6⟩, h7, h8⟩ := h
      exact ⟨a, dx, ra, oa, l, i, u, tv, vs, ws, h1, imm_of h2 (by kernel_rfl), h3.imm, h4.imm, ⟨imm_t h5, Paired.mapP h6 fun a b z => RowAt.imm z⟩, imm_t h7, Paired.mapP h8 fun a b z => RowAt.imm z⟩
theorem RowsAt.imm {d : Nat} {vs : List V} {rs : List (Rw d)} (h : RowsAt K NS d H vs rs) : RowsAt K NS d (imm H) vs rs := Paired.mapP h fun _ _ z => z.imm
/-- another object's store -/
theorem RowsAt.wr {d : Nat} {vs : List V} {rs : List (Rw d)} {a : Addr} {u o : HO} (h : RowsAt K NS d H vs rs) (ha : H a = some u) (hu : immO u = false) (ho : immO o = false) : RowsAt K NS d (upd H a o) vs rs := by
  have z := h.imm
  rw [← imm_upd ha hu ho] at z
  exact z.mono (imm_ex _)
theorem TestAt.wr {t : PT} {v : V} {a : Addr} {u o : HO} (h : TestAt K NS H v t) (ha : H a = some u) (hu : immO u = false) (ho : immO o = false) : TestAt K NS (upd H a o) v t := by
  have z := h.imm
  rw [← imm_upd ha hu ho] at z
  exact z.mono (imm_ex _)
end
/-! ### the rows of a text -/
inductive L1 where
  | put (x : Str) (g : PutG) | stop
inductive Lb where
  | one (r : L1) | times (n : Nat) (rs : List L1) | ife (t : PT) (rs os : List L1)
def L1.rw {d : Nat} : L1 → RF (Rw d)
  | .put x g => .put x g
  | .stop => .stop
def L1.rw1 : L1 → Rw 1 := L1.rw (d := 0)
def Lb.rw : Lb → Rw 2
  | .one r => (L1.rw r : RF (Rw 1))
  | .times n rs => (.times n (rs.map L1.rw1) : RF (Rw 1))
  | .ife t rs os => (.ife t (rs.map L1.rw1) (os.map L1.rw1) : RF (Rw 1))
def L1.tk : L1 → Tk
  | .put x g => .put x g
  | .stop => .stop
def Lb.tks : Lb → List Tk
  | .one r => [r.tk]
  | .times n rs => .times n :: (rs.map L1.tk ++ [.fin])
  | .ife t rs os => .iff t :: (rs.map L1.tk ++ ((if os = [] then [] else .els :: os.map L1.tk) ++ [.fin]))
inductive PM where
  | top (rs : List Lb)
  | blk (rs : List Lb) (h : Sum PT Nat) (ah : Option (List L1)) (cur : List L1)
def stepP : PM → Tk → Option PM
  | .top rs, .put x g => some (.top (rs ++ [.one (.put x g)]))
  | .top rs, .stop => some (.top (rs ++ [.one .stop]))
  | .top rs, .times n => some (.blk rs (.inr n) none [])
  | .top rs, .iff t => some (.blk rs (.inl t) none [])
  | .blk rs h ah cur, .put x g => some (.blk rs h ah (cur ++ [.put x g]))
  | .blk rs h ah cur, .stop => some (.blk rs h ah (cur ++ [.stop]))
  | .blk rs (.inl t) none cur, .els => some (.blk rs (.inl t) (some cur) [])
  | .blk rs (.inr n) none cur, .fin => some (.top (rs ++ [.times n cur]))
  | .blk rs (.inl t) none cur, .fin => some (.top (rs ++ [.ife t cur []]))
  | .blk rs (.inl t) (some a) cur, .fin => some (.top (rs ++ [.ife t a cur]))
  | _, _ => none
def runP : List Tk → PM → Option PM
  | [], s => some s
  | t :: r, s => (stepP s t).bind (runP r)
theorem runP_app : ∀ (a b : List Tk) (s : PM), runP (a ++ b) s = (runP a s).bind (runP b)
  | [], _, _ => rfl
  | t :: r, b, s => by
    show (stepP s t).bind (runP (r ++ b)) = ((stepP s t).bind (runP r)).bind (runP b)
    cases stepP s t with
    | none => rfl
    | some s' => exact runP_app r b s'
theorem run_l1 (rs : List Lb) (h : Sum PT Nat) (ah : Option (List L1)) : ∀ (l cur : List L1), runP (l.map L1.tk) (.blk rs h ah cur) = some (.blk rs h ah (cur ++ l))
  | [], cur => by rw [List.append_nil]; rfl
  | r :: l, cur => by
    cases r with
    | put x g =>
      show runP (l.map L1.tk) (.blk rs h ah (cur ++ [.put x g])) = _
      rw [run_l1 rs h ah l, List.append_assoc]
      rfl
    | stop =>
      show runP (l.map L1.tk) (.blk rs h ah (cur ++ [.stop])) = _
      rw [run_l1 rs h ah l, List.append_assoc]
      rfl
theorem run_lb (rs : List Lb) (r : Lb) : runP r.tks (.top rs) = some (.top (rs ++ [r])) := by
  cases r with
  | one r => cases r <;> rfl
  | times n l =>
    show runP (l.map L1.tk ++ [.fin]) (.blk rs (.inr n) none []) = _
    rw [runP_app, run_l1]
    rfl
  | ife t l os =>
    show runP (l.map L1.tk ++ ((if os = [] then [] else .els :: os.map L1.tk) ++ [.fin])) (.blk rs (.inl t) none []) = _
    rw [runP_app, run_l1]
    show runP ((if os = [] then [] else .els :: os.map L1.tk) ++ [.fin]) (.blk rs (.inl t) none l) = _
    cases os with
    | nil => rfl
    | cons o q =>
      rw [if_neg (fun z => nomatch z)]
      show runP ((o :: q).map L1.tk ++ [.fin]) (.blk rs (.inl t) (some l) []) = _
      rw [runP_app, run_l1]
      rfl
theorem run_all : ∀ (l rs : List Lb), runP (l.flatMap Lb.tks) (.top rs) = some (.top (rs ++ l))
  | [], rs => by rw [List.append_nil]; rfl
  | r :: l, rs => by
    rw [List.flatMap_cons, runP_app, run_lb]
    show runP (l.flatMap Lb.tks) (.top (rs ++ [r])) = _
    rw [run_all l, List.append_assoc]
    rfl
def PM.small (n : Nat) : PM → Prop
  | .top rs => rs.length ≤ n
  | .blk rs _ ah cur => rs.length ≤ n ∧ cur.length ≤ n ∧ ∀ a, ah = some a → a.length ≤ n
theorem step_small {n : Nat} {s s' : PM} {t : Tk} (h : stepP s t = some s') (z : s.small n) : s'.small (n + 1) := by
  have app : ∀ {α : Type} (l : List α) (x : α), l.length ≤ n → (l ++ [x]).length ≤ n + 1 := fun l x h => by rw [List.length_append]; exact Nat.succ_le_succ h
  cases s with
  | top rs =>
    cases t <;> cases h
    · exact app _ _ z
    · exact app _ _ z
    · exact ⟨Nat.le_succ_of_le z, Nat.zero_le _, fun _ e => nomatch e⟩
    · exact ⟨Nat.le_succ_of_le z, Nat.zero_le _, fun _ e => nomatch e⟩
  | blk rs hd ah cur =>
    obtain ⟨z1, z2, z3⟩ := z
    cases t with
    | put x g => cases h; exact ⟨Nat.le_succ_of_le z1, app _ _ z2, fun a e => Nat.le_succ_of_le (z3 a e)⟩
    | stop => cases h; exact ⟨Nat.le_succ_of_le z1, app _ _ z2, fun a e => Nat.le_succ_of_le (z3 a e)⟩
    | times n => cases hd <;> cases ah <;> cases h
    | iff t => cases hd <;> cases ah <;> cases h
    | els =>
      cases hd <;> cases ah <;> cases h
      exact ⟨Nat.le_succ_of_le z1, Nat.zero_le _, fun a e => by cases e; exact Nat.le_succ_of_le z2⟩
    | fin => cases hd <;> cases ah <;> cases h <;> exact app _ _ z1
/-! ### the machine in the heap -/
def HeadAt (K : PySem.W.Frag) (NS : List Str) (H : Hp) (v : V) : Sum PT Nat → Prop
  | .inl t => TestAt K NS H v t ∧ t.wf NS 4
  | .inr n => v = .int n ∧ n ≤ 4
def bfs (h : V) (r : Addr) (av : V) : List (Str × V) := [("head", h), ("rows", .ref r), ("ahead", av)]
def BlkAt (K : PySem.W.Frag) (H : Hp) (b r : Addr) (h av : V) : Prop := ∃ dx, H b = some (.ins (C_Block K) dx (bfs h r av))
/-- rows in a list, not among what is asked later -/
structure LsAt (K : PySem.W.Frag) (NS : List Str) (d : Nat) (Hs H : Hp) (r : Addr) (vs : List V) (rs : List (Rw d)) : Prop where
  fr : Hs r = none
  at_ : H r = some (.lst vs)
  rows : RowsAt K NS d H vs rs
def AheadAt (K : PySem.W.Frag) (NS : List Str) (H : Hp) (v : V) : Option (List L1) → Prop
  | none => v = .non
  | some a => ∃ ra xs, v = .ref ra ∧ H ra = some (.lst xs) ∧ RowsAt K NS 1 H xs (a.map L1.rw1)
structure TopAt (K : PySem.W.Frag) (NS : List Str) (Hs H : Hp) (ob b0 r0 : Addr) (vs : List V) (rs : List Lb) : Prop where
  ex : Ex Hs H
  fro : Hs ob = none
  frb : Hs b0 = none
  ne : ob ≠ r0
  b : BlkAt K H b0 r0 .non .non
  l : LsAt K NS 2 Hs H r0 vs (rs.map Lb.rw)
structure InAt (K : PySem.W.Frag) (NS : List Str) (Hs H : Hp) (ob b0 r0 b1 r1 : Addr) (hv av : V) (us : List V) (h : Sum PT Nat) (ah : Option (List L1)) (cur : List L1) : Prop where
  frb : Hs b1 = none
  neb : b1 ≠ b0
  neo : r1 ≠ ob
  ner : r1 ≠ r0
  b : BlkAt K H b1 r1 hv av
  hd : HeadAt K NS H hv h
  l : LsAt K NS 1 Hs H r1 us (cur.map L1.rw1)
  ah : AheadAt K NS H av ah
  nea : ∀ ra, av = .ref ra → ra ≠ ob ∧ ra ≠ r0 ∧ ra ≠ r1
def PMAt (K : PySem.W.Frag) (NS : List Str) (Hs H : Hp) (ob : Addr) : PM → Prop
  | .top rs => ∃ b0 r0 vs, TopAt K NS Hs H ob b0 r0 vs rs ∧ H ob = some (.lst [.ref b0])
  | .blk rs h ah cur => ∃ b0 r0 vs b1 r1 hv av us, TopAt K NS Hs H ob b0 r0 vs rs ∧ InAt K NS Hs H ob b0 r0 b1 r1 hv av us h ah cur ∧ H ob = some (.lst [.ref b0, .ref b1])
def sp_Block_init (K : PySem.W.Frag) : SP0 := fun vs H Q => ∃ (p dx : Addr) (hv : V) (H0 : Hp), vs = [.ref p, hv] ∧ NewAt K H0 H p (C_Block K) dx ∧ ∀ r H', H0 r = none → Ex H0 H' → H' r = some (.lst []) → BlkAt K H' p r hv .non → Q .non H'
def sp_can_turn (K : PySem.W.Frag) : SP0 := fun vs H Q => ∃ (p r : Addr) (hv : V), vs = [.ref p] ∧ BlkAt K H p r hv .non ∧ (∃ (a C dx : Addr) (fs : List (Str × V)), hv = .ref a ∧ H a = some (.ins C dx fs) ∧ (C = C_Ask K ∨ C = C_Not K)) ∧ ∀ H', Ex H H' → Q (.bl true) H'
def sp_turn (K : PySem.W.Frag) : SP0 := fun vs H Q => ∃ (p dx r : Addr) (hv av : V), vs = [.ref p] ∧ H p = some (.ins (C_Block K) dx (bfs hv r av)) ∧ ∀ q H1, H q = none → Ex H H1 → H1 q = some (.lst []) → Q .non (upd H1 p (.ins (C_Block K) dx (bfs hv q (.ref r))))
def sp_made (K : PySem.W.Frag) (NS : List Str) : SP0 := fun vs H Q => ∃ (p r : Addr) (hv av : V) (us : List V) (h : Sum PT Nat) (ah : Option (List L1)) (cur : List L1), vs = [.ref p] ∧ BlkAt K H p r hv av ∧ HeadAt K NS H hv h ∧ (H r = some (.lst us) ∧ RowsAt K NS 1 H us (cur.map L1.rw1)) ∧ AheadAt K NS H av ah ∧ (cur.length ≤ 12 ∧ (∀ a, ah = some a → a.length ≤ 12)) ∧
  ∃ b : Lb, stepP (.blk [] h ah cur) .fin = some (.top [b]) ∧ ∀ p H', H p = none → Ex H H' → RowAt K NS 2 H' (.ref p) b.rw → Q (.ref p) H'
section
variable {P : Program} {w : World} {K : PySem.W.Frag} {mg : Str → Option Value} {base : Heap} {NS : List Str}
theorem empty_tup {H : Hp} {a : Addr} (h : emptyB K a = true) : SqT K H a [] := by
  unfold emptyB at h
  split at h
  · rename_i c dd its n sl e
    obtain ⟨h1, h2⟩ := (Bool.and_eq_true _ _).mp h
    have ei : its = #[] := Array.isEmpty_iff.mp h2
    subst ei
    exact .inr ⟨_, #[], n, e, congrArg Value.type (of_decide_eq_true h1), rfl, Nat.zero_le _, .nil⟩
  · cases h
theorem dfl_tup (T : Txt w K mg) {H : Hp} : SqT K H (He.dflAt ("If", some "__init__") 0 K) [] := empty_tup T.x_dIf
theorem bfs_head (h : V) (r : Addr) (av : V) : (bfs h r av).lookup ("head" : Str) = some h := by kernel_rfl
theorem bfs_rows (h : V) (r : Addr) (av : V) : (bfs h r av).lookup ("rows" : Str) = some (.ref r) := by kernel_rfl
theorem bfs_ahead (h : V) (r : Addr) (av : V) : (bfs h r av).lookup ("ahead" : Str) = some av := by kernel_rfl
theorem bfs_putA (h : V) (r : Addr) (av v : V) : putF "ahead" v (bfs h r av) = bfs h r v := by kernel_rfl
theorem bfs_putR (h : V) (r q : Addr) (av : V) : putF "rows" (.ref q) (bfs h r av) = bfs h q av := by kernel_rfl
theorem ok_Block_init (T : Txt w K mg) : FR P w K mg base 1 (a_Block_init K) (sp_Block_init K) := by
  obtain ⟨fd, F⟩ := T.d_Block_init
  refine mkR F sc_Block_init (fun _ _ _ _ _ _ us hl => match us, hl with | [_, _], _ => rfl) (fun vs H Q h => by obtain ⟨p, dx, hv, H0, rfl, ⟨e0, hp0, hp⟩, k⟩ := h; rfl) fun cdv A outer s H vs Q E hr h => ?_
  obtain ⟨p, dx, hv, H0, rfl, ⟨e0, hp0, hp⟩, k⟩ := h
  refine ⟨_, (pss_cons (kps_fld (K := K) rfl (pv 0) (pv 1) rfl)
  (pss_cons (kps_fld (K := K) rfl (pv 0) (pe_lst pa_nil) rfl)
  (pss_one (kps_fld (K := K) rfl (pv 0) pe_non rfl)))), ?_⟩
  refine ⟨_, rfl, _, rfl, p, _, dx, [], rfl, hp, T.c_Block, T.n_Block_head, (by show 0 < 1000; decide), ?_⟩
  refine ⟨Nat.zero_le _, fun r hr => ?_⟩
  have npr : p ≠ r := ne_of_none upd_same hr
  have e1 := e0.mut (o := .ins (C_Block K) dx (putF "head" hv [])) hp0
  have hr0 : H0 r = none := fresh_back e1 hr
  refine ⟨_, rfl, p, _, dx, _, rfl, (by rw [upd_ne npr]; exact upd_same), T.c_Block, T.n_Block_rows, (by show 1 < 1000; decide), ?_⟩
  refine ⟨_, rfl, p, _, dx, _, rfl, upd_same, T.c_Block, T.n_Block_ahead, (by show 2 < 1000; decide), ?_⟩
  refine k r _ hr0 (((e1.trans (Ex.new hr)).mut hp0).mut hp0) ?_ ⟨dx, upd_same.trans (by kernel_rfl)⟩
  rw [upd_ne npr.symm, upd_ne npr.symm]
  exact upd_same
theorem ok_Block_can_turn (T : Txt w K mg) : FR P w K mg base 1 (a_Block_can_turn K) (sp_can_turn K) := by
  obtain ⟨fd, F⟩ := T.d_Block_can_turn
  refine mkR F sc_Block_can_turn (fun _ _ _ _ _ _ us hl => match us, hl with | [_], _ => rfl) (fun vs H Q h => by obtain ⟨p, r, hv, rfl, ⟨dx, hp⟩, ⟨a, C, dt, fs, rfl, ha, hC⟩, k⟩ := h; rfl) fun cdv A outer s H vs Q E hr h => ?_
  obtain ⟨p, r, hv, rfl, ⟨dx, hp⟩, ⟨a, C, dt, fs, rfl, ha, hC⟩, k⟩ := h
  refine ⟨_, (pss_one (ps_ret (pe_and (pe_cmpR op_isN (kfld (K := K) rfl (pv 0) rfl) pe_non (nomark _)) (pe_and (pe_cmpR op_notN (kfld (K := K) rfl (pv 0) rfl) pe_non (nomark _)) (pe_one (pe_not (pe_callB (kcall_isi (K := K) rfl) (by rfl) T.z_isinstance b_isinstance (pa_cons (kfld (K := K) rfl (pv 0) rfl) (pa_cons (pe_bltn (v := .ty "int") rfl T.z_int b_int rfl) pa_nil))))))))), ?_⟩
  refine ⟨_, rfl, p, _, dx, _, _, rfl, hp, T.c_Block, T.n_Block_ahead, bfs_ahead _ _ _, rfl, true, rfl, ?_⟩
  refine ⟨_, rfl, p, _, dx, _, _, rfl, hp, T.c_Block, T.n_Block_head, bfs_head _ _ _, rfl, true, rfl, ?_⟩
  refine ⟨_, rfl, p, _, dx, _, _, rfl, hp, T.c_Block, T.n_Block_head, bfs_head _ _ _, ?_⟩
  rcases hC with rfl | rfl
  · exact ⟨_, _, _, _, false, rfl, .ty "int", inst_ty T.x_inst_Ask T.c_Ask ha, of_decide_eq_true T.x_is_Ask_int, _, rfl, k _ (Ex.refl _)⟩
  · exact ⟨_, _, _, _, false, rfl, .ty "int", inst_ty T.x_inst_Not T.c_Not ha, of_decide_eq_true T.x_is_Not_int, _, rfl, k _ (Ex.refl _)⟩
theorem ok_Block_turn (T : Txt w K mg) : FR P w K mg base 1 (a_Block_turn K) (sp_turn K) := by
  obtain ⟨fd, F⟩ := T.d_Block_turn
  refine mkR F sc_Block_turn (fun _ _ _ _ _ _ us hl => match us, hl with | [_], _ => rfl) (fun vs H Q h => by obtain ⟨p, dx, r, hv, av, rfl, hp, k⟩ := h; rfl) fun cdv A outer s H vs Q E hr h => ?_
  obtain ⟨p, dx, r, hv, av, rfl, hp, k⟩ := h
  refine ⟨_, (pss_one (ps_asg (pe_tup (pa_cons (kfld (K := K) rfl (pv 0) rfl) (pa_cons (pe_lst pa_nil) pa_nil))) (kpg_tup (K := K) (n := 2) rfl (by rfl) (pgs_cons (kpg_fld (K := K) rfl (pv 0)) (pgs_cons (kpg_fld (K := K) rfl (pv 0)) pgs_nil))))), ?_⟩
  refine ⟨_, rfl, p, _, dx, _, _, rfl, hp, T.c_Block, T.n_Block_rows, bfs_rows _ _ _, Nat.zero_le _, fun q hq => ?_⟩
  have x1 := Ex.new (H := H) (o := .lst []) hq
  refine ⟨sz2, fun u hu => ?_⟩
  have x2 := Ex.new (o := .tup [V.ref r, V.ref q]) hu
  refine ⟨u, _, rfl, .inl (.inl upd_same), rfl, _, _, rfl, ?_⟩
  refine ⟨_, rfl, p, _, dx, _, rfl, x2 _ _ (x1 _ _ hp), T.c_Block, T.n_Block_ahead, (by show 3 < 1000; decide), ?_⟩
  refine ⟨_, _, rfl, _, rfl, p, _, dx, _, rfl, upd_same, T.c_Block, T.n_Block_rows, (by show 3 < 1000; decide), rfl, ?_⟩
  rw [upd_upd', bfs_putA, bfs_putR]
  exact k q _ hq (x1.trans x2) (x2 _ _ upd_same)
theorem ok_Block_made (T : Txt w K mg) : FR P0 w K mg base 8 (a_Block_made K) (sp_made K NS) := by
  obtain ⟨fd, F⟩ := T.d_Block_made
  refine mkR F sc_Block_made (fun _ _ _ _ _ _ us hl => match us, hl with | [_], _ => rfl) (fun vs H Q h => by obtain ⟨p, r, hv, av, us, h, ah, cur, rfl, ⟨dx, hp⟩, hh, ⟨hls, hrs⟩, hav, ⟨l1, l2⟩, b, hb, k⟩ := h; rfl) fun cdv A outer s H vs Q E hr h => ?_
  obtain ⟨p, r, hv, av, us, h, ah, cur, rfl, ⟨dx, hp⟩, hh, ⟨hls, hrs⟩, hav, ⟨l1, l2⟩, b, hb, k⟩ := h
  refine ⟨_, (pss_cons (ps_if (pt_val (pe_callB (kcall_isi (K := K) rfl) (by rfl) T.z_isinstance b_isinstance (pa_cons (kfld (K := K) rfl (pv 0) rfl) (pa_cons (pe_bltn (v := .ty "int") rfl T.z_int b_int rfl) pa_nil)))) (pss_one (ps_ret (pe_makeF T.k_Times (ok_Times_init (K := K) (NS := NS) T) (hr.mono (by omega)) (by rfl) T.g_Times (pa_cons (kfld (K := K) rfl (pv 0) rfl) (pa_cons (kfld (K := K) rfl (pv 0) rfl) pa_nil))))) pss_nil)
  (pss_cons (ps_if (pt_cmpR op_isN (kfld (K := K) rfl (pv 0) rfl) pe_non (nomark _)) (pss_one (ps_ret (pe_makeF T.k_If (ok_If_init2 (K := K) (NS := NS) T) (hr.mono (by omega)) (by rfl) T.g_If (pa_cons (kfld (K := K) rfl (pv 0) rfl) (pa_cons (kfld (K := K) rfl (pv 0) rfl) pa_nil))))) pss_nil)
  (pss_one (ps_ret (pe_makeF T.k_If (ok_If_init3 (K := K) (NS := NS) T) (hr.mono (by omega)) (by rfl) T.g_If (pa_cons (kfld (K := K) rfl (pv 0) rfl) (pa_cons (kfld (K := K) rfl (pv 0) rfl) (pa_cons (kfld (K := K) rfl (pv 0) rfl) pa_nil)))))))), ?_⟩
  cases h with
  | inr n =>
    obtain ⟨rfl, hn⟩ := hh
    cases ah with
    | some a => cases hb
    | none =>
      cases hb
      refine ⟨_, rfl, p, _, dx, _, _, rfl, hp, T.c_Block, T.n_Block_head, bfs_head _ _ _, _, _, _, _, true, rfl, .ty "int", .base (.int n), kit_ty (by decide +kernel), true, rfl, ?_⟩
      refine ⟨_, rfl, p, _, dx, _, _, rfl, hp, T.c_Block, T.n_Block_head, bfs_head _ _ _, ?_⟩
      refine ⟨_, rfl, p, _, dx, _, _, rfl, hp, T.c_Block, T.n_Block_rows, bfs_rows _ _ _, ?_⟩
      intro q dq hq hdq hne
      exact ⟨1, q, dq, r, n, us, cur.map L1.rw1, H, rfl, newAt hq hdq hne, ⟨.inl hls, hrs⟩, ⟨by decide, by rw [List.length_map]; exact l1, by omega⟩, fun H' e z => ⟨rfl, k q H' hq e z⟩⟩
  | inl t =>
    obtain ⟨ht, wt⟩ := hh
    obtain ⟨ta, TC, tdx, tu, tfs, tus, txt, rfl, hta, hTC, _⟩ := ht.acc wt
    have go : TyX K H (.ref ta) (.ref TC) ∧ PySem.W.kitOne K (.ref TC) (.type "int") = some false := by
      rcases hTC with rfl | rfl
      · exact ⟨inst_ty T.x_inst_Ask T.c_Ask hta, of_decide_eq_true T.x_is_Ask_int⟩
      · exact ⟨inst_ty T.x_inst_Not T.c_Not hta, of_decide_eq_true T.x_is_Not_int⟩
    refine ⟨_, rfl, p, _, dx, _, _, rfl, hp, T.c_Block, T.n_Block_head, bfs_head _ _ _, _, _, _, _, false, rfl, .ty "int", go.1, go.2, false, rfl, ?_⟩
    refine ⟨_, rfl, p, _, dx, _, _, rfl, hp, T.c_Block, T.n_Block_ahead, bfs_ahead _ _ _, ?_⟩
    cases ah with
    | none =>
      obtain rfl : av = .non := hav
      cases hb
      refine ⟨rfl, true, rfl, ?_⟩
      refine ⟨_, rfl, p, _, dx, _, _, rfl, hp, T.c_Block, T.n_Block_head, bfs_head _ _ _, ?_⟩
      refine ⟨_, rfl, p, _, dx, _, _, rfl, hp, T.c_Block, T.n_Block_rows, bfs_rows _ _ _, ?_⟩
      intro q dq hq hdq hne
      have nw := newAt (K := K) (C := C_If K) hq hdq hne
      exact ⟨1, q, dq, r, He.dflAt ("If", some "__init__") 0 K, .ref ta, t, us, [], cur.map L1.rw1, [], H, rfl, nw, ⟨ht, wt⟩, ⟨⟨.inl hls, hrs⟩, .inr (dfl_tup T), .nil⟩, ⟨by decide, by rw [List.length_map]; exact l1, by decide⟩, fun H' e z => ⟨rfl, k q H' hq e z⟩⟩
    | some a =>
      obtain ⟨ra, xs, rfl, hra, hrx⟩ := hav
      cases hb
      refine ⟨rfl, false, rfl, ?_⟩
      refine ⟨_, rfl, p, _, dx, _, _, rfl, hp, T.c_Block, T.n_Block_head, bfs_head _ _ _, ?_⟩
      refine ⟨_, rfl, p, _, dx, _, _, rfl, hp, T.c_Block, T.n_Block_ahead, bfs_ahead _ _ _, ?_⟩
      refine ⟨_, rfl, p, _, dx, _, _, rfl, hp, T.c_Block, T.n_Block_rows, bfs_rows _ _ _, ?_⟩
      intro q dq hq hdq hne
      exact ⟨1, q, dq, ra, r, .ref ta, t, xs, us, a.map L1.rw1, cur.map L1.rw1, H, rfl, newAt hq hdq hne, ⟨ht, wt⟩, ⟨⟨.inl hra, hrx⟩, .inl hls, hrs⟩, ⟨by decide, by rw [List.length_map]; exact l2 a rfl, by rw [List.length_map]; exact l1⟩, fun H' e z => ⟨rfl, k q H' hq e z⟩⟩
end
end E97
set_option Elab.async false
set_option linter.all false
set_option maxRecDepth 100000
set_option maxHeartbeats 4000000
/-! P12: take_line, rows_in -/
namespace E97
open PySem PySem.Spec PyProof.Rows L2 Evl NdefX
section
variable {K : PySem.W.Frag} {NS : List Str} {Hs H H' : Hp}
theorem BlkAt.mono {b r : Addr} {h av : V} (e : Ex H H') (z : BlkAt K H b r h av) : BlkAt K H' b r h av := let ⟨dx, q⟩ := z; ⟨dx, e _ _ q⟩
theorem LsAt.mono {d : Nat} {r : Addr} {vs : List V} {rs : List (Rw d)} (e : Ex H H') (z : LsAt K NS d Hs H r vs rs) : LsAt K NS d Hs H' r vs rs := ⟨z.fr, e _ _ z.at_, z.rows.mono e⟩
theorem AheadAt.mono {v : V} (e : Ex H H') : ∀ {ah : Option (List L1)}, AheadAt K NS H v ah → AheadAt K NS H' v ah
  | none, z => z
  | some a, ⟨ra, xs, h1, h2, h3⟩ => ⟨ra, xs, h1, e _ _ h2, h3.mono e⟩
theorem HeadAt.mono {v : V} (e : Ex H H') : ∀ {h : Sum PT Nat}, HeadAt K NS H v h → HeadAt K NS H' v h
  | .inl t, ⟨z1, z2⟩ => ⟨z1.mono e, z2⟩
  | .inr n, z => z
theorem TopAt.mono {ob b0 r0 : Addr} {vs : List V} {rs : List Lb} (e : Ex H H') (z : TopAt K NS Hs H ob b0 r0 vs rs) : TopAt K NS Hs H' ob b0 r0 vs rs := ⟨z.ex.trans e, z.fro, z.frb, z.ne, z.b.mono e, z.l.mono e⟩
theorem InAt.mono {ob b0 r0 b1 r1 : Addr} {hv av : V} {us : List V} {h : Sum PT Nat} {ah : Option (List L1)} {cur : List L1} (e : Ex H H') (z : InAt K NS Hs H ob b0 r0 b1 r1 hv av us h ah cur) : InAt K NS Hs H' ob b0 r0 b1 r1 hv av us h ah cur :=
  ⟨z.frb, z.neb, z.neo, z.ner, z.b.mono e, z.hd.mono e, z.l.mono e, z.ah.mono e, z.nea⟩
theorem PMAt.mono {ob : Addr} (e : Ex H H') : ∀ {st : PM}, PMAt K NS Hs H ob st → PMAt K NS Hs H' ob st
  | .top _, ⟨b0, r0, vs, z, h⟩ => ⟨b0, r0, vs, z.mono e, e _ _ h⟩
  | .blk _ _ _ _, ⟨b0, r0, vs, b1, r1, hv, av, us, z, y, h⟩ => ⟨b0, r0, vs, b1, r1, hv, av, us, z.mono e, y.mono e, e _ _ h⟩
/-- another list or block is stored -/
theorem BlkAt.wr {b r a : Addr} {h av : V} {o : HO} (z : BlkAt K H b r h av) (n : b ≠ a) : BlkAt K (upd H a o) b r h av := let ⟨dx, q⟩ := z; ⟨dx, by rw [upd_ne n]; exact q⟩
theorem LsAt.wr {d : Nat} {r a : Addr} {vs : List V} {rs : List (Rw d)} {u o : HO} (z : LsAt K NS d Hs H r vs rs) (n : r ≠ a) (ha : H a = some u) (hu : immO u = false) (ho : immO o = false) : LsAt K NS d Hs (upd H a o) r vs rs := ⟨z.fr, by rw [upd_ne n]; exact z.at_, z.rows.wr ha hu ho⟩
theorem LsAt.add {d : Nat} {r : Addr} {vs : List V} {rs : List (Rw d)} {v : V} {x : Rw d} (z : LsAt K NS d Hs H r vs rs) (h : RowAt K NS d H v x) : LsAt K NS d Hs (upd H r (.lst (vs ++ [v]))) r (vs ++ [v]) (rs ++ [x]) :=
  ⟨z.fr, upd_same, RowsAt.wr (paired_append z.rows (.cons h .nil)) z.at_ rfl rfl⟩
theorem HeadAt.wr {v : V} {a : Addr} {u o : HO} (ha : H a = some u) (hu : immO u = false) (ho : immO o = false) : ∀ {h : Sum PT Nat}, HeadAt K NS H v h → HeadAt K NS (upd H a o) v h
  | .inl t, ⟨z1, z2⟩ => ⟨z1.wr ha hu ho, z2⟩
  | .inr n, z => z
theorem AheadAt.wr {v : V} {a : Addr} {u o : HO} (ha : H a = some u) (hu : immO u = false) (ho : immO o = false) (n : ∀ ra, v = .ref ra → ra ≠ a) : ∀ {ah : Option (List L1)}, AheadAt K NS H v ah → AheadAt K NS (upd H a o) v ah
  | none, z => z
  | some b, ⟨ra, xs, h1, h2, h3⟩ => ⟨ra, xs, h1, by rw [upd_ne (n ra h1)]; exact h2, h3.wr ha hu ho⟩
section
variable {ob b0 r0 b1 r1 p : Addr} {vs us : List V} {hv av v : V} {rs : List Lb} {h : Sum PT Nat} {ah : Option (List L1)} {cur : List L1}
theorem PMAt.addTop (z : TopAt K NS Hs H ob b0 r0 vs rs) (ho : H ob = some (.lst [.ref b0])) {b : Lb} (hr : RowAt K NS 2 H v b.rw) : PMAt K NS Hs (upd H r0 (.lst (vs ++ [v]))) ob (.top (rs ++ [b])) := by
  obtain ⟨dx, hb⟩ := z.b
  have l := z.l.add hr
  rw [show rs.map Lb.rw ++ [b.rw] = (rs ++ [b]).map Lb.rw by rw [List.map_append]; rfl] at l
  exact ⟨b0, r0, vs ++ [v], ⟨z.ex.mut z.l.fr, z.fro, z.frb, z.ne, z.b.wr (ne_of hb z.l.at_ (fun q => nomatch q)), l⟩, by rw [upd_ne z.ne]; exact ho⟩
theorem PMAt.addIn (z : TopAt K NS Hs H ob b0 r0 vs rs) (y : InAt K NS Hs H ob b0 r0 b1 r1 hv av us h ah cur) (ho : H ob = some (.lst [.ref b0, .ref b1])) {x : L1} (hr : RowAt K NS 1 H v x.rw1) : PMAt K NS Hs (upd H r1 (.lst (us ++ [v]))) ob (.blk rs h ah (cur ++ [x])) := by
  obtain ⟨dx, hb⟩ := z.b
  obtain ⟨dx1, hb1⟩ := y.b
  have l := y.l.add hr
  rw [show cur.map L1.rw1 ++ [x.rw1] = (cur ++ [x]).map L1.rw1 by rw [List.map_append]; rfl] at l
  exact ⟨b0, r0, vs, b1, r1, hv, av, us ++ [v], ⟨z.ex.mut y.l.fr, z.fro, z.frb, z.ne, z.b.wr (ne_of hb y.l.at_ (fun q => nomatch q)), z.l.wr y.ner.symm y.l.at_ rfl rfl⟩,
    ⟨y.frb, y.neb, y.neo, y.ner, y.b.wr (ne_of hb1 y.l.at_ (fun q => nomatch q)), y.hd.wr y.l.at_ rfl rfl, l, y.ah.wr y.l.at_ rfl rfl fun ra e => (y.nea ra e).2.2, y.nea⟩, by rw [upd_ne y.neo.symm]; exact ho⟩
theorem immB {C dx r : Addr} {h av : V} : immO (.ins C dx (bfs h r av)) = false := by kernel_rfl
theorem PMAt.turnIn (z : TopAt K NS Hs H ob b0 r0 vs rs) (y : InAt K NS Hs H ob b0 r0 b1 r1 hv .non us h none cur) (ho : H ob = some (.lst [.ref b0, .ref b1])) {dx q : Addr} {H1 : Hp} (hb1 : H b1 = some (.ins (C_Block K) dx (bfs hv r1 .non))) (hq : H q = none) (e : Ex H H1) (h1 : H1 q = some (.lst [])) :
    PMAt K NS Hs (upd H1 b1 (.ins (C_Block K) dx (bfs hv q (.ref r1)))) ob (.blk rs h (some cur) []) := by
  have n1 : ∀ {a : Addr} {xs : List V}, H a = some (.lst xs) → a ≠ b1 := fun ha => ne_of ha hb1 (fun q => nomatch q)
  have hb1' := e _ _ hb1
  have nq : ∀ {a : Addr} {o : HO}, H a = some o → a ≠ q := fun ha => ne_of_none ha hq
  refine ⟨b0, r0, vs, b1, q, hv, .ref r1, [], ⟨(z.ex.trans e).mut y.frb, z.fro, z.frb, z.ne, (z.b.mono e).wr y.neb.symm, (z.l.mono e).wr (n1 z.l.at_) hb1' immB immB⟩,
    ⟨y.frb, y.neb, (nq ho).symm, (nq z.l.at_).symm, ⟨dx, upd_same⟩, (y.hd.mono e).wr hb1' immB immB, ⟨fresh_back z.ex hq, by rw [upd_ne (nq hb1).symm]; exact h1, .nil⟩, ⟨r1, us, rfl, by rw [upd_ne (n1 y.l.at_)]; exact e _ _ y.l.at_, (y.l.rows.mono e).wr hb1' immB immB⟩, fun ra er => ?_⟩, by rw [upd_ne (n1 ho)]; exact e _ _ ho⟩
  cases er
  exact ⟨y.neo, y.ner, nq y.l.at_⟩
theorem PMAt.openIn (z : TopAt K NS Hs H ob b0 r0 vs rs) (ho : H ob = some (.lst [.ref b0])) {r : Addr} {H1 : Hp} (hp : H p = none) (hr : H r = none) (e : Ex H H1) (hr1 : H1 r = some (.lst [])) (hb : BlkAt K H1 p r hv .non) (hh : HeadAt K NS H hv h) :
    PMAt K NS Hs (upd H1 ob (.lst [.ref b0, .ref p])) ob (.blk rs h none []) := by
  obtain ⟨dx0, hb0⟩ := z.b
  obtain ⟨dx, hb⟩ := hb
  have ho1 := e _ _ ho
  have nr : ∀ {a : Addr} {o : HO}, H a = some o → a ≠ r := fun ha => ne_of_none ha hr
  refine ⟨b0, r0, vs, p, r, hv, .non, [], ⟨(z.ex.trans e).mut z.fro, z.fro, z.frb, z.ne, (z.b.mono e).wr (ne_of hb0 ho (fun q => nomatch q)), (z.l.mono e).wr z.ne.symm ho1 rfl rfl⟩,
    ⟨fresh_back z.ex hp, (ne_of_none hb0 hp).symm, (nr ho).symm, (nr z.l.at_).symm, BlkAt.wr ⟨dx, hb⟩ (ne_of hb ho1 (fun q => nomatch q)), (hh.mono e).wr ho1 rfl rfl, ⟨fresh_back z.ex hr, by rw [upd_ne (nr ho).symm]; exact hr1, .nil⟩, rfl, fun ra er => nomatch er⟩, upd_same⟩
theorem TopAt.pop (z : TopAt K NS Hs H ob b0 r0 vs rs) {xs ys : List V} (ho : H ob = some (.lst xs)) : TopAt K NS Hs (upd H ob (.lst ys)) ob b0 r0 vs rs := by
  obtain ⟨dx0, hb0⟩ := z.b
  exact ⟨z.ex.mut z.fro, z.fro, z.frb, z.ne, z.b.wr (ne_of hb0 ho (fun q => nomatch q)), z.l.wr z.ne.symm ho rfl rfl⟩
theorem step_fin {st' : PM} (h' : stepP (.blk rs h ah cur) .fin = some st') : ∃ b, stepP (.blk [] h ah cur) .fin = some (.top [b]) ∧ st' = .top (rs ++ [b]) := by
  cases h <;> cases ah <;> cases h' <;> exact ⟨_, rfl, rfl⟩
theorem row1_put {x : Str} {g : PutG} (z : ∀ d, RowAt K NS (d + 1) H v (RF.put x g : RF (Rw d))) : RowAt K NS 2 H v (Lb.one (.put x g)).rw ∧ RowAt K NS 1 H v (L1.put x g).rw1 := ⟨z 1, z 0⟩
theorem row1_stop (z : ∀ d, RowAt K NS (d + 1) H v (RF.stop : RF (Rw d))) : RowAt K NS 2 H v (Lb.one .stop).rw ∧ RowAt K NS 1 H v L1.stop.rw1 := ⟨z 1, z 0⟩
end
end
def sp_take_line (K : PySem.W.Frag) (NS : List Str) : SP0 := fun vs H Q => ∃ (ob : Addr) (t : Tk) (Hs : Hp) (st st' : PM), vs = [.ref ob, .str (tkLine t)] ∧ PMAt K NS Hs H ob st ∧ stepP st t = some st' ∧ st.small 11 ∧ (t.wf NS ∧ ∀ y ∈ NS, isNm y) ∧ ∀ H', PMAt K NS Hs H' ob st' → Q (.bl true) H'
def allTks (rs : List Lb) : List Tk := rs.flatMap Lb.tks
def textOf (ts : List Tk) : Str := PySem.Txt.join "\n" (ts.map tkLine)
def sp_rows_in (K : PySem.W.Frag) (NS : List Str) : SP0 := fun vs H Q => ∃ rs : List Lb, vs = [.str (textOf (allTks rs))] ∧ (allTks rs).length ≤ 12 ∧ ((∀ t ∈ allTks rs, t.wf NS) ∧ ∀ y ∈ NS, isNm y) ∧ ∀ r vs H', Ex H H' → H' r = some (.lst vs) → RowsAt K NS 2 H' vs (rs.map Lb.rw) → Q (.ref r) H'
section
variable {P : Program} {w : World} {K : PySem.W.Frag} {mg : Str → Option Value} {base : Heap} {NS : List Str}
theorem line_inj (hNS : ∀ y ∈ NS, isNm y) {t t' : Tk} (wf : t.wf NS) (wf' : t'.wf NS) (e : tkLine t = tkLine t') : tkW t = tkW t' := by
  rw [← line_split hNS wf, ← line_split hNS wf', e]
theorem num_ne_eq {n : Nat} (hn : n ≤ 4) : ¬ numS n = "=" := by
  intro c
  have z := num_facts (k := (n : Int)) (by omega)
  obtain ⟨_, f2, _, d, f4, _⟩ := z
  have f2' := f2 d (List.mem_of_getElem? f4)
  have f4' : (numS n).cps.toList[0]? = some d := f4
  rw [c] at f4'
  cases f4'
  exact absurd f2' (by decide +kernel)
theorem test_hd {n : Nat} {t : PT} (wf : t.wf NS n) : ∃ h r, testW t = h :: r ∧ ¬ h = "=" := by
  cases t with
  | ask word ns =>
    have wf : (PT.ask word ns).wf NS 0 := by cases n <;> exact wf
    exact ⟨_, _, rfl, fun e => by subst e; exact absurd wf.1 (by decide +kernel)⟩
  | not t => exact ⟨_, _, rfl, by decide +kernel⟩
theorem ok_take_line (T : Txt w K mg) : FR P0 w K mg base 15 (a_take_line K) (sp_take_line K NS) := by
  obtain ⟨fd, F⟩ := T.d_take_line
  refine mkR F sc_take_line (fun _ _ _ _ _ _ us hl => match us, hl with | [_, _], _ => rfl) (fun vs H Q h => by obtain ⟨ob, t, Hs, st, st', rfl, hP, hs, hz, ⟨wf, hNS⟩, k⟩ := h; rfl) fun cdv A outer s H vs Q E hr h => ?_
  obtain ⟨ob, t, Hs, st, st', rfl, hP, hs, hz, ⟨wf, hNS⟩, k⟩ := h
  refine ⟨_, (pss_cons (ps_set (i := 2) sc_take_line.nd rfl (Or.inl rfl) (pe_callF (ok_single_in (K := K) (NS := NS) T) (hr.mono (by omega)) (by rfl) T.g_single_in T.k_single_in (pa_cons (pv 1) pa_nil)))
  (pss_cons (ps_set (i := 3) sc_take_line.nd rfl (Or.inl rfl) (pe_split (pv 1) pe_str))
  (pss_cons (ps_if (pt_cmpR op_notN (pv 2) pe_non (nomark _)) (pss_one (ps_expr (kpe_bm (K := K) rfl PySem.F.plainAttrs_list PySem.F.slot_list_append PySem.F.type_list_append mt_append (kfld (K := K) rfl (pe_ix (kix_list (K := K) rfl) (pv 0) (pe_un un_neg pe_int) (fun _ _ => rfl)) rfl) (pa_cons (pv 2) pa_nil)))) (pss_one (ps_if (PW.pt (pw_and (pt_cmpR op_gt (pe_callB (kcall_len (K := K) rfl) (by rfl) T.z_len b_len (pa_cons (pv 3) pa_nil)) pe_int (nomark _)) (pw_and1 (pt_cmpR op_eq (pe_ix (kix_list (K := K) rfl) (pv 3) pe_int (fun _ _ => rfl)) pe_str (nomark _))))) (pss_one (ps_ret pe_bl)) (pss_one (ps_if (pt_cmpR op_eq (pv 1) pe_str (nomark _)) (pss_cons (ps_if (pt_not (pt_val (pe_methF0 (pe_ix (kix_list (K := K) rfl) (pv 0) (pe_un un_neg pe_int) (fun _ _ => rfl)) T.c_Block T.m_Block_can_turn (ok_Block_can_turn (K := K) T) (hr.mono (by omega))))) (pss_one (ps_ret pe_bl)) pss_nil)
  (pss_one (ps_expr (pe_methF0 (pe_ix (kix_list (K := K) rfl) (pv 0) (pe_un un_neg pe_int) (fun _ _ => rfl)) T.c_Block T.m_Block_turn (ok_Block_turn (K := K) T) (hr.mono (by omega)))))) (pss_one (ps_if (pt_cmpR op_eq (pv 1) pe_str (nomark _)) (pss_cons (ps_if (pt_cmpR op_eq (pe_callB (kcall_len (K := K) rfl) (by rfl) T.z_len b_len (pa_cons (pv 0) pa_nil)) pe_int (nomark _)) (pss_one (ps_ret pe_bl)) pss_nil)
  (pss_cons (ps_set (i := 2) sc_take_line.nd rfl (Or.inl rfl) (pe_methF0 (kpe_bm0 (K := K) rfl PySem.F.plainAttrs_list PySem.F.slot_list_pop PySem.F.type_list_pop mt_pop (pv 0)) T.c_Block T.m_Block_made (ok_Block_made (K := K) (NS := NS) T) (hr.mono (by omega))))
  (pss_one (ps_expr (kpe_bm (K := K) rfl PySem.F.plainAttrs_list PySem.F.slot_list_append PySem.F.type_list_append mt_append (kfld (K := K) rfl (pe_ix (kix_list (K := K) rfl) (pv 0) (pe_un un_neg pe_int) (fun _ _ => rfl)) rfl) (pa_cons (pv 2) pa_nil)))))) (pss_cons (ps_set (i := 4) sc_take_line.nd rfl (Or.inl rfl) (pe_callF (ok_head_in (K := K) (NS := NS) T) (hr.mono (by omega)) (by rfl) T.g_head_in T.k_head_in (pa_cons (pv 1) pa_nil)))
  (pss_cons (ps_if (pt_cmpR op_isN (pv 4) pe_non (nomark _)) (pss_one (ps_ret pe_bl)) pss_nil)
  (pss_one (ps_expr (kpe_bm (K := K) rfl PySem.F.plainAttrs_list PySem.F.slot_list_append PySem.F.type_list_append mt_append (pv 0) (pa_cons (pe_makeF T.k_Block (ok_Block_init (K := K) T) (hr.mono (by omega)) (by rfl) T.g_Block (pa_cons (pv 4) pa_nil)) pa_nil)))))))))))))
  (pss_one (ps_ret pe_bl))))), ?_⟩
  have lineW : ∀ {H1 : Hp} {Q2 : VK}, (∀ q H2, H1 q = none → Ex H1 H2 → H2 q = some (.lst ((tkW t).map V.str)) → Q2 (.ref q) H2) → ∃ a b : Str, V.str (tkLine t) = .str a ∧ [V.str (Str.ofString " ")] = [.str b] ∧ (b.length == 0) = false ∧ a.length + 2 ≤ sizeLine ∧ rNewStrs (Txt.split a b) H1 Q2 := fun kq =>
    ⟨_, " ", rfl, rfl, by decide +kernel, Nat.le_trans (Nat.add_le_add_right (line_len hNS wf) 2) (by decide), fun q hq => by
      rw [line_split hNS wf]
      exact kq q _ hq (Ex.new hq) upd_same⟩
  have nl : ∀ {n : Nat}, n ≤ 11 → n < sizeLine := fun h => Nat.lt_of_le_of_lt h (by decide)
  -- a row is added to the last block
  have add : ∀ (p q : Addr) (H1 : Hp), PMAt K NS Hs H1 ob st → (match t with | .put x g => (∀ d, RowAt K NS (d + 1) H1 (.ref p) (RF.put x g : RF (Rw d))) | .stop => (∀ d, RowAt K NS (d + 1) H1 (.ref p) (RF.stop : RF (Rw d))) | _ => False) →
      tSeq (tDrop (tBM K "list" rAppend (tFld K (tOp (rIxL K) (tVar 0) (tUn (rU fun i => V.int (-i)) (tC (V.int 1)))) (Str.ofString "rows")) (tCons (tVar 2) tNil))) (tRet (tC (V.bl true))) { nx := fun _ H' => Q .non H', rt := Q } [some (.ref ob), some (.str (tkLine t)), some (.ref p), some (.ref q), none] H1 := fun p q H1 hP1 hr => by
    cases st with
    | top rs =>
      obtain ⟨b0, r0, vs, z, ho⟩ := hP1
      obtain ⟨dx, hb⟩ := z.b
      refine ⟨_, rfl, _, rfl, _, _, _, _, rfl, rfl, sq_of ho, rfl, b0, _, dx, _, _, rfl, hb, T.c_Block, T.n_Block_rows, bfs_rows _ _ _, tyL z.l.at_, _, rfl, r0, vs, _, rfl, rfl, z.l.at_, ?_, ?_⟩
      · rw [paired_len z.l.rows, List.length_map]
        exact nl hz
      · cases t with
        | put x g => cases hs; exact k _ (PMAt.addTop z ho (row1_put hr).1)
        | stop => cases hs; exact k _ (PMAt.addTop z ho (row1_stop hr).1)
        | times n => exact hr.elim
        | iff t => exact hr.elim
        | els => exact hr.elim
        | fin => exact hr.elim
    | blk rs h ah cur =>
      obtain ⟨b0, r0, vs, b1, r1, hv, av, us, z, y, ho⟩ := hP1
      obtain ⟨dx, hb⟩ := y.b
      refine ⟨_, rfl, _, rfl, _, _, _, _, rfl, rfl, sq_of ho, rfl, b1, _, dx, _, _, rfl, hb, T.c_Block, T.n_Block_rows, bfs_rows _ _ _, tyL y.l.at_, _, rfl, r1, us, _, rfl, rfl, y.l.at_, ?_, ?_⟩
      · rw [paired_len y.l.rows, List.length_map]
        exact nl hz.2.1
      · cases t with
        | put x g => cases hs; exact k _ (PMAt.addIn z y ho (row1_put hr).2)
        | stop => cases hs; exact k _ (PMAt.addIn z y ho (row1_stop hr).2)
        | times n => exact hr.elim
        | iff t => exact hr.elim
        | els => exact hr.elim
        | fin => exact hr.elim
  refine ⟨_, rfl, t, rfl, ⟨wf, hNS⟩, ?_⟩
  cases t with
  | put x g =>
    intro p H1 hp e1 hr
    refine ⟨_, rfl, ⟨_, rfl⟩, lineW fun q H2 hq e2 h2 => ?_⟩
    refine ⟨_, rfl, rfl, _, rfl, ?_⟩
    exact add p q H2 ((hP.mono e1).mono e2) fun d => (hr d).mono e2
  | stop =>
    intro p H1 hp e1 hr
    refine ⟨_, rfl, ⟨_, rfl⟩, lineW fun q H2 hq e2 h2 => ?_⟩
    refine ⟨_, rfl, rfl, _, rfl, ?_⟩
    exact add p q H2 ((hP.mono e1).mono e2) fun d => (hr d).mono e2
  | els =>
    intro H1 e1
    refine ⟨_, rfl, ⟨_, rfl⟩, lineW fun q H2 hq e2 h2 => ?_⟩
    have hP2 := (hP.mono e1).mono e2
    refine ⟨_, rfl, rfl, _, rfl, ?_⟩
    refine ⟨_, rfl, q, _, rfl, .inl (sq_of h2), _, _, rfl, rfl, _, rfl, ?_⟩
    refine ⟨_, rfl, rfl, _, rfl, ?_⟩
    refine iteS (fun _ => ?_) fun c => absurd (by decide +kernel) c
    cases st with
    | top rs => cases hs
    | blk rs h ah cur =>
      obtain ⟨b0, r0, vs, b1, r1, hv, av, us, z, y, ho⟩ := hP2
      cases h with
      | inr n => cases ah <;> cases hs
      | inl tt =>
        cases ah with
        | some a => cases hs
        | none =>
          cases hs
          obtain ⟨ht, wt⟩ := y.hd
          obtain ⟨ta, TC, tdx, tu, tfs, tus, txt, rfl, hta, hTC, _⟩ := ht.acc wt
          obtain rfl : av = .non := y.ah
          obtain ⟨dx, hb⟩ := y.b
          refine ⟨_, rfl, _, rfl, _, _, _, _, rfl, rfl, sq_of ho, rfl, b1, dx, _, rfl, hb, by kernel_rfl, b1, r1, _, rfl, ⟨dx, hb⟩, ⟨ta, TC, tdx, _, rfl, hta, hTC⟩, fun H3 e3 => ⟨true, rfl, ?_⟩⟩
          refine ⟨_, rfl, _, rfl, _, _, _, _, rfl, rfl, sq_of (e3 _ _ ho), rfl, b1, dx, _, rfl, e3 _ _ hb, by kernel_rfl, b1, dx, r1, _, _, rfl, e3 _ _ hb, fun qq H4 hqq e4 h4 => ?_⟩
          exact k _ (PMAt.turnIn (z.mono e3) (y.mono e3) (e3 _ _ ho) (e3 _ _ hb) hqq e4 h4)
  | fin =>
    intro H1 e1
    refine ⟨_, rfl, ⟨_, rfl⟩, lineW fun q H2 hq e2 h2 => ?_⟩
    have hP2 := (hP.mono e1).mono e2
    refine ⟨_, rfl, rfl, _, rfl, ?_⟩
    refine ⟨_, rfl, q, _, rfl, .inl (sq_of h2), _, _, rfl, rfl, _, rfl, ?_⟩
    refine ⟨_, rfl, rfl, _, rfl, ?_⟩
    refine iteS (fun c => absurd c (by decide +kernel)) fun _ => ?_
    refine ⟨_, rfl, rfl, _, rfl, ?_⟩
    refine iteS (fun _ => ?_) fun c => absurd (by decide +kernel) c
    cases st with
    | top rs => cases hs
    | blk rs h ah cur =>
      obtain ⟨b0, r0, vs, b1, r1, hv, av, us, z, y, ho⟩ := hP2
      obtain ⟨b, hb', rfl⟩ := step_fin hs
      obtain ⟨dx, hb⟩ := y.b
      refine ⟨_, rfl, ob, _, rfl, .inl (sq_of ho), rfl, _, rfl, ?_⟩
      refine ⟨_, rfl, tyL ho, ob, _, .ref b1, rfl, rfl, ho, rfl, ?_⟩
      have z3 := z.pop (ys := [V.ref b0]) ho
      have hb3 : (upd H2 ob (.lst [V.ref b0])) b1 = some (.ins (C_Block K) dx (bfs hv r1 av)) := by rw [upd_ne (ne_of hb ho (fun q => nomatch q))]; exact hb
      have y3 := y.b.wr (o := .lst [V.ref b0]) (ne_of hb ho (fun q => nomatch q))
      refine ⟨b1, dx, _, rfl, hb3, by kernel_rfl, b1, r1, hv, av, us, h, ah, cur, rfl, ⟨dx, hb3⟩, y.hd.wr ho rfl rfl, ⟨by rw [upd_ne y.neo]; exact y.l.at_, y.l.rows.wr ho rfl rfl⟩, y.ah.wr ho rfl rfl fun ra e => (y.nea ra e).1, ⟨Nat.le_trans hz.2.1 (by decide), fun a e => Nat.le_trans (hz.2.2 a e) (by decide)⟩, b, hb', fun p H4 hp e4 hr => ?_⟩
      have z4 := z3.mono e4
      have ho4 := e4 _ _ (upd_same (H := H2) (a := ob) (o := .lst [V.ref b0]))
      obtain ⟨dx0, hb0⟩ := z4.b
      refine ⟨_, rfl, _, rfl, _, _, _, _, rfl, rfl, sq_of ho4, rfl, b0, _, dx0, _, _, rfl, hb0, T.c_Block, T.n_Block_rows, bfs_rows _ _ _, tyL z4.l.at_, _, rfl, r0, vs, _, rfl, rfl, z4.l.at_, ?_, k _ (PMAt.addTop z4 ho4 hr)⟩
      rw [paired_len z4.l.rows, List.length_map]
      exact nl hz.1
  | times n =>
    intro H1 e1
    refine ⟨_, rfl, ⟨_, rfl⟩, lineW fun q H2 hq e2 h2 => ?_⟩
    have hP2 := (hP.mono e1).mono e2
    have hn : n ≤ 4 := wf
    refine ⟨_, rfl, rfl, _, rfl, ?_⟩
    refine ⟨_, rfl, q, _, rfl, .inl (sq_of h2), _, _, rfl, rfl, _, rfl, ?_⟩
    refine ⟨_, rfl, _, _, _, _, rfl, rfl, sq_of h2, (show atI ([Str.ofString "times", numS n].map V.str) 1 = some (.str (numS n)) from at1), rfl, _, rfl, ?_⟩
    refine iteS (fun c => absurd c (num_ne_eq hn)) fun _ => ?_
    refine ⟨_, rfl, rfl, _, rfl, ?_⟩
    refine iteS (fun c => absurd (congrArg List.length (line_inj hNS wf (t' := .els) trivial (c.trans (by decide +kernel)))) (show ¬ 2 = 1 by decide)) fun _ => ?_
    refine ⟨_, rfl, rfl, _, rfl, ?_⟩
    refine iteS (fun c => absurd (congrArg List.length (line_inj hNS wf (t' := .fin) trivial (c.trans (by decide +kernel)))) (show ¬ 2 = 1 by decide)) fun _ => ?_
    refine ⟨_, rfl, .times n, rfl, ⟨wf, hNS⟩, fun H3 e3 => ?_⟩
    refine ⟨_, rfl, rfl, _, rfl, ?_⟩
    cases st with
    | blk rs h ah cur => cases h <;> cases ah <;> cases hs
    | top rs =>
      cases hs
      obtain ⟨b0, r0, vs, z, ho⟩ := hP2
      have ho3 := e3 _ _ ho
      refine ⟨_, rfl, tyL ho3, _, rfl, fun p dx hp hdx hne => ?_⟩
      refine ⟨p, dx, _, H3, rfl, newAt hp hdx hne, fun r H4 hr e4 h4 hb => ⟨rfl, ob, _, _, rfl, rfl, e4 _ _ ho3, (show 1 < sizeLine by decide), ?_⟩⟩
      exact k _ (PMAt.openIn (z.mono e3) ho3 hp hr e4 h4 hb ⟨rfl, hn⟩)
  | iff tt =>
    intro H1 e1
    refine ⟨_, rfl, ⟨_, rfl⟩, lineW fun q H2 hq e2 h2 => ?_⟩
    have hP2 := (hP.mono e1).mono e2
    have tp := testW_pos tt
    obtain ⟨hw, hr, ew, hne⟩ := test_hd (t := tt) wf
    refine ⟨_, rfl, rfl, _, rfl, ?_⟩
    refine ⟨_, rfl, q, _, rfl, .inl (sq_of h2), _, _, rfl, rfl, _, rfl, ?_⟩
    refine iteD (fun _ => ?_) fun c => absurd (show (1 : Int) < ((((tkW (.iff tt)).map V.str).length : Nat) : Int) by rw [List.length_map]; show (1 : Int) < (((testW tt).length + 1 : Nat) : Int); omega) c
    refine ⟨_, rfl, _, _, _, _, rfl, rfl, sq_of h2, (show atI ((Str.ofString "if" :: testW tt).map V.str) 1 = some (.str hw) from by rw [ew]; exact at1), rfl, _, rfl, ?_⟩
    refine iteS (fun c => absurd c hne) fun _ => ?_
    refine ⟨_, rfl, rfl, _, rfl, ?_⟩
    refine iteS (fun c => absurd (congrArg List.length (line_inj hNS wf (t' := .els) trivial (c.trans (by decide +kernel)))) (show ¬ (testW tt).length + 1 = 1 by omega)) fun _ => ?_
    refine ⟨_, rfl, rfl, _, rfl, ?_⟩
    refine iteS (fun c => absurd (congrArg List.length (line_inj hNS wf (t' := .fin) trivial (c.trans (by decide +kernel)))) (show ¬ (testW tt).length + 1 = 1 by omega)) fun _ => ?_
    refine ⟨_, rfl, .iff tt, rfl, ⟨wf, hNS⟩, fun pt H3 hpt e3 ht => ?_⟩
    refine ⟨_, rfl, rfl, _, rfl, ?_⟩
    cases st with
    | blk rs h ah cur => cases h <;> cases ah <;> cases hs
    | top rs =>
      cases hs
      obtain ⟨b0, r0, vs, z, ho⟩ := hP2
      have ho3 := e3 _ _ ho
      refine ⟨_, rfl, tyL ho3, _, rfl, fun p dx hp hdx hne => ?_⟩
      refine ⟨p, dx, _, H3, rfl, newAt hp hdx hne, fun r H4 hr e4 h4 hb => ⟨rfl, ob, _, _, rfl, rfl, e4 _ _ ho3, (show 1 < sizeLine by decide), ?_⟩⟩
      exact k _ (PMAt.openIn (z.mono e3) ho3 hp hr e4 h4 hb ⟨ht, wf⟩)
theorem run_step {ts : List Tk} {s0 sf st : PM} {i : Nat} {t : Tk} (h : runP ts s0 = some sf) (ht : ts[i]? = some t) (hi : runP (ts.take i) s0 = some st) : ∃ st', stepP st t = some st' ∧ runP (ts.take (i + 1)) s0 = some st' := by
  have hlt : i < ts.length := (List.getElem?_eq_some_iff.mp ht).1
  have e : ts = ts.take i ++ t :: ts.drop (i + 1) := by
    have e1 := List.take_append_drop i ts
    rw [List.drop_eq_getElem_cons hlt, (List.getElem?_eq_some_iff.mp ht).2] at e1
    exact e1.symm
  rw [e, runP_app, hi] at h
  have h : (stepP st t).bind (runP (ts.drop (i + 1))) = some sf := h
  cases q : stepP st t with
  | none => rw [q] at h; cases h
  | some st' =>
    refine ⟨st', rfl, ?_⟩
    rw [List.take_add_one, ht, runP_app, hi]
    show (stepP st t).bind (runP []) = some st'
    rw [q]
    rfl
theorem mem_joinL {S : List Nat} {c : Nat} : ∀ {l : List (List Nat)}, c ∈ TL.joinL S l → c ∈ S ∨ ∃ p ∈ l, c ∈ p
  | [], h => by cases h
  | [p], h => .inr ⟨p, List.mem_cons_self, h⟩
  | p :: q :: r, h => by
    rcases List.mem_append.mp h with h | h
    · exact .inr ⟨p, List.mem_cons_self, h⟩
    rcases List.mem_append.mp h with h | h
    · exact .inl h
    · rcases mem_joinL h with h | ⟨z, h1, h2⟩
      · exact .inl h
      · exact .inr ⟨z, List.mem_cons_of_mem _ h1, h2⟩
theorem line_nl (hNS : ∀ y ∈ NS, isNm y) {t : Tk} (wf : t.wf NS) : 10 ∉ TL.tl (tkLine t) := by
  intro h
  rw [show tkLine t = PySem.Str.join " " (tkW t) from TL.join_eq " " (tkW t), TL.tl_join] at h
  rcases mem_joinL h with h | ⟨p, hp, hc⟩
  · exact absurd h (by decide +kernel)
  · obtain ⟨w, hw, rfl⟩ := List.mem_map.mp hp
    have := (((wd_tk hNS wf).1 w hw).1 10 hc).1
    omega
theorem tkW_ne {t : Tk} : tkW t ≠ [Str.ofString ""] := by
  cases t with
  | put x g => exact fun e => nomatch (List.cons.inj e).2
  | stop => decide +kernel
  | times n => exact fun e => nomatch (List.cons.inj e).2
  | iff t =>
    intro e
    have h := (List.cons.inj e).2
    have := testW_pos t
    have h : testW t = [] := h
    rw [h] at this
    cases this
  | els => decide +kernel
  | fin => decide +kernel
theorem text_split (hNS : ∀ y ∈ NS, isNm y) {ts : List Tk} (wf : ∀ t ∈ ts, t.wf NS) (hne : ts ≠ []) : Txt.split (textOf ts) "\n" = ts.map tkLine :=
  TL.split_join (y := "\n") (s := 10) (S := []) rfl (by decide +kernel) (fun e => hne (List.map_eq_nil_iff.mp e)) fun p hp h => by
    obtain ⟨t, ht, rfl⟩ := List.mem_map.mp hp
    exact line_nl hNS (wf t ht) h
theorem text_ne (hNS : ∀ y ∈ NS, isNm y) {ts : List Tk} (wf : ∀ t ∈ ts, t.wf NS) (hne : ts ≠ []) : textOf ts ≠ "" := by
  intro e
  have h := text_split hNS wf hne
  rw [e, show Txt.split (Str.ofString "") (Str.ofString "\n") = [Str.ofString ""] from by decide +kernel] at h
  cases ts with
  | nil => exact hne rfl
  | cons t r =>
    have h1 : (Str.ofString "") = tkLine t := (List.cons.inj h).1
    have h2 := line_split hNS (wf t List.mem_cons_self)
    rw [← h1, show Txt.split (Str.ofString "") (Str.ofString " ") = [Str.ofString ""] from by decide +kernel] at h2
    exact tkW_ne h2.symm
theorem text_len (hNS : ∀ y ∈ NS, isNm y) {ts : List Tk} (wf : ∀ t ∈ ts, t.wf NS) (hz : ts.length ≤ 12) : (textOf ts).length ≤ 1300 := by
  rw [show textOf ts = PySem.Str.join "\n" (ts.map tkLine) from TL.join_eq "\n" (ts.map tkLine)]
  refine Nat.le_trans (PySem.StrLaws.join_length_le _ _) ?_
  have s := sum_le (m := 100) (ys := ts.map tkLine) fun y hy => by
    obtain ⟨t, ht, rfl⟩ := List.mem_map.mp hy
    exact line_len hNS (wf t ht)
  have l2 : (Str.ofString "\n").length = 1 := by decide +kernel
  rw [List.length_map] at s
  rw [l2, List.length_map]
  omega
theorem PMAt.exs {Hs H : Hp} {ob : Addr} : ∀ {st : PM}, PMAt K NS Hs H ob st → Ex Hs H
  | .top _, ⟨_, _, _, z, _⟩ => z.ex
  | .blk _ _ _ _, ⟨_, _, _, _, _, _, _, _, z, _⟩ => z.ex
theorem small_take {ts : List Tk} {sf : PM} (h : runP ts (.top []) = some sf) : ∀ i, i ≤ ts.length → ∃ st, runP (ts.take i) (.top []) = some st ∧ st.small i
  | 0, _ => ⟨.top [], rfl, Nat.zero_le _⟩
  | i + 1, hi => by
    obtain ⟨st, h1, h2⟩ := small_take h i (by omega)
    obtain ⟨st', h3, h4⟩ := run_step h (List.getElem?_eq_getElem (by omega)) h1
    exact ⟨st', h4, step_small h3 h2⟩
theorem PM.small.mono {n m : Nat} (h : n ≤ m) : ∀ {s : PM}, s.small n → s.small m
  | .top _, z => Nat.le_trans z h
  | .blk _ _ _ _, ⟨z1, z2, z3⟩ => ⟨Nat.le_trans z1 h, Nat.le_trans z2 h, fun a e => Nat.le_trans (z3 a e) h⟩
theorem ok_rows_in (T : Txt w K mg) : FR P0 w K mg base 16 (a_rows_in K) (sp_rows_in K NS) := by
  obtain ⟨fd, F⟩ := T.d_rows_in
  refine mkR F sc_rows_in (fun _ _ _ _ _ _ us hl => match us, hl with | [_], _ => rfl) (fun vs H Q h => by obtain ⟨rs, rfl, hz, ⟨wf, hNS⟩, k⟩ := h; rfl) fun cdv A outer s H vs Q E hr h => ?_
  obtain ⟨rs, rfl, hz, ⟨wf, hNS⟩, k⟩ := h
  refine ⟨_, (pss_cons (ps_set (i := 1) sc_rows_in.nd rfl (Or.inl rfl) (pe_ifExp (pt_cmpR op_ne (pv 0) pe_str (nomark _)) (pe_split (pv 0) pe_str) (pe_lst pa_nil)))
  (pss_cons (ps_set (i := 2) sc_rows_in.nd rfl (Or.inl rfl) (pe_lst (pa_cons (pe_makeF T.k_Block (ok_Block_init (K := K) T) (hr.mono (by omega)) (by rfl) T.g_Block (pa_cons pe_non pa_nil)) pa_nil)))
  (pss_cons (ps_for PassesOwn.never rfl (kpi_enum (K := K) rfl (by rfl) T.z_enumerate (pa_cons (pv 1) pa_nil)) (kpg_tup (K := K) (n := 2) rfl (by rfl) (pgs_cons (pg_name (i := 3) sc_rows_in.nd rfl (Or.inl rfl)) (pgs_cons (pg_name (i := 4) sc_rows_in.nd rfl (Or.inl rfl)) pgs_nil))) (pss_one (ps_if (pt_not (pt_val (pe_callF (ok_take_line (K := K) (NS := NS) T) (hr.mono (by omega)) (by rfl) T.g_take_line T.k_take_line (pa_cons (pv 2) (pa_cons (pv 4) pa_nil))))) (pss_one (ps_never)) pss_nil)))
  (pss_cons (ps_if (pt_cmpR op_gt (pe_callB (kcall_len (K := K) rfl) (by rfl) T.z_len b_len (pa_cons (pv 2) pa_nil)) pe_int (nomark _)) (pss_one (ps_never)) pss_nil)
  (pss_one (ps_ret (kfld (K := K) rfl (pe_ix (kix_list (K := K) rfl) (pv 2) pe_int (fun _ _ => rfl)) rfl))))))), ?_⟩
  generalize ets : allTks rs = ts at hz wf
  have hrun : runP ts (.top []) = some (.top rs) := by
    rw [← ets]
    exact run_all rs []
  have main : ∀ (wl : Addr) (H1 : Hp), Ex H H1 → H1 wl = some (.lst ((ts.map tkLine).map V.str)) →
      tSeq (tAsg (tLst (tCons (tMakeF (C_Block K) (sp_Block_init K) (tCons (tC V.non) tNil)) tNil)) (gName 2))
      (tSeq
        (tFor (iEnum K (tCons (tVar 1) tNil)) (gTup K 2 (gCons (gName 3) (gCons (gName 4) gNil)))
          (tIfS (tNot (tB (tCallF (sp_take_line K NS) (tCons (tVar 2) (tCons (tVar 4) tNil))))) tNever tNext))
        (tSeq
          (tIfS
            (tTest (tOp (rI0 fun i j => V.bl (decide (j < i))) (tCB (rLenS K) (tCons (tVar 2) tNil)) (tC (V.int 1))))
            tNever tNext)
          (tRet (tFld K (tOp (rIxL K) (tVar 2) (tC (V.int 0))) (Str.ofString "rows"))))) { nx := fun _ H' => Q .non H', rt := Q } [some (.str (textOf ts)), some (.ref wl), none, none, none] H1 := fun wl H1 e1 h1 => by
    intro p dx hp hdx hne
    refine ⟨p, dx, .non, H1, rfl, newAt hp hdx hne, fun r H2 hr e2 h2 hb => ⟨rfl, (show 1 ≤ sizeLine by decide), fun ob hob => ?_⟩⟩
    have x3 := Ex.new (o := .lst [V.ref p]) hob
    have P0' : PMAt K NS H1 (upd H2 ob (.lst [V.ref p])) ob (.top []) :=
      ⟨p, r, [], ⟨e2.trans x3, fresh_back e2 hob, hp, (ne_of_none h2 hob).symm, hb.mono x3, ⟨hr, x3 _ _ h2, .nil⟩⟩, upd_same⟩
    refine ⟨_, rfl, wl, _, rfl, sq_of ((e2.trans x3) _ _ h1), ?_⟩
    refine for_it walk_enum (fun i σ H' => ∃ st o3 o4, runP (ts.take i) (.top []) = some st ∧ st.small i ∧ PMAt K NS H1 H' ob st ∧ σ = [some (.str (textOf ts)), some (.ref wl), some (.ref ob), o3, o4]) ⟨_, none, none, rfl, Nat.zero_le _, P0', rfl⟩ (fun i σ H' _ ⟨st, o3, o4, q1, q2, q3, q4⟩ => sq_of (q3.exs _ _ h1)) (fun i x σ H3 H4 hi ⟨st, o3, o4, q1, q2, q3, q4⟩ hy => ?_) fun σ H' ⟨st, o3, o4, q1, q2, q3, q4⟩ => ?_
    · obtain ⟨Tp, c, y, rfl, hT, rfl, hc, hy⟩ := hy
      subst q4
      have eT := Ex.new (H := H3) (o := .tup [c, y]) hT
      rw [List.length_map, List.length_map] at hi
      have ht : ts[i]? = some ts[i] := List.getElem?_eq_getElem hi
      dsimp only at hy
      rw [List.getElem?_map, List.getElem?_map, ht] at hy
      cases hy
      obtain ⟨st', s1, s2⟩ := run_step hrun ht q1
      refine ⟨Tp, _, rfl, SqT.of upd_same, rfl, _, _, rfl, _, _, rfl, rfl, ?_⟩
      refine ⟨_, rfl, _, rfl, ob, ts[i], H1, st, st', rfl, q3.mono eT, s1, q2.mono (by omega), ⟨wf _ (List.getElem_mem hi), hNS⟩, fun H5 q5 => ⟨true, rfl, ?_⟩⟩
      exact ⟨st', _, _, s2, step_small s1 q2, q5, rfl⟩
    · subst q4
      rw [List.length_map, List.length_map, List.take_length, hrun] at q1
      cases q1
      obtain ⟨b0, r0, vs, z, ho⟩ := q3
      obtain ⟨dx0, hb0⟩ := z.b
      refine ⟨_, rfl, ob, _, rfl, .inl (sq_of ho), _, _, rfl, rfl, false, rfl, ?_⟩
      refine ⟨_, rfl, _, _, _, _, rfl, rfl, sq_of ho, rfl, b0, _, dx0, _, _, rfl, hb0, T.c_Block, T.n_Block_rows, bfs_rows _ _ _, ?_⟩
      exact k r0 vs H' (e1.trans z.ex) z.l.at_ z.l.rows
  refine ⟨_, rfl, rfl, _, rfl, ?_⟩
  cases ts with
  | nil =>
    refine iteNS (fun c => absurd rfl c) fun _ => ?_
    refine ⟨Nat.zero_le _, fun wl hwl => ?_⟩
    exact main wl _ (Ex.new hwl) upd_same
  | cons t r =>
    have hne : t :: r ≠ [] := fun e => nomatch e
    refine iteNS (fun _ => ?_) fun c => absurd c (text_ne hNS wf hne)
    refine ⟨_, rfl, ⟨_, rfl⟩, _, "\n", rfl, rfl, by decide +kernel, Nat.le_trans (Nat.add_le_add_right (text_len hNS wf hz) 2) (by decide), fun wl hwl => ?_⟩
    rw [text_split hNS wf hne]
    exact main wl _ (Ex.new hwl) upd_same
end
end E97
set_option Elab.async false
set_option linter.all false
set_option maxRecDepth 100000
set_option maxHeartbeats 4000000
/-! P13: Program -/
namespace E97
open PySem PySem.Spec PyProof.Rows L2 Evl NdefX
def sp_Program_init (K : PySem.W.Frag) (NS : List Str) : SP0 := fun vs H Q => ∃ (d : Nat) (p dx ra : Addr) (ws : List V) (rs : List (Rw d)) (H0 : Hp), vs = [.ref p, .ref ra] ∧ NewAt K H0 H p (C_Program K) dx ∧ (SqA K H0 ra ws ∧ RowsAt K NS d H0 ws rs) ∧ ((∀ r ∈ rs, Rw.wf NS d r) ∧ rs.length ≤ 24 ∧ d ≤ 3 ∧ NS.length ≤ 20) ∧
  ∀ H', Ex H0 H' → ProgAt K NS d H' p rs → Q .non H'
theorem LB_le3 {d : Nat} (h : d ≤ 3) : LB d ≤ 3000 := by
  have z : d = 0 ∨ d = 1 ∨ d = 2 ∨ d = 3 := by omega
  rcases z with rfl | rfl | rfl | rfl <;> decide
def qfs (ra fl li nm : Addr) : List (Str × V) := [("rows", .ref ra), ("flat", .ref fl), ("lines", .ref li), ("names", .ref nm)]
/-- names of rows, as a set -/
theorem sc2_names {P : Program} {w : World} {K : PySem.W.Frag} {NS : List Str} {H : Hp} {p dx fl : Addr} {fs : List (Str × V)} {zs : List V} {v0 v1 v2 v3 : Option V} {Q : VK} (hn : NS.length ≤ 20) (hp : H p = some (.ins (C_Program K) dx fs)) (hv0 : v0 = some (.ref p)) (cP : Cls K (C_Program K)) (nP : NoAttr K (C_Program K) "flat") (hl : fs.lookup ("flat" : Str) = some (.ref fl)) (hfl : H fl = some (.lst zs))
    (hr : ∀ v ∈ zs, ∃ (a C dx u : Addr) (fs : List (Str × V)) (us : List Str), v = .ref a ∧ H a = some (.ins C dx fs) ∧ (Cls K C ∧ NoAttr K C "used") ∧ fs.lookup ("used" : Str) = some (.ref u) ∧ SqT K H u (us.map V.str) ∧ ∀ x ∈ us, x ∈ NS)
    (q : ∀ D, H D = none → Q (.ref D) (upd H D (SetTO P w NS D))) :
    tSc2 P w NS (iList K (tFld K (tVar 0) (Str.ofString "flat"))) (gName 2) (iTup K (tFld K (tVar 2) (Str.ofString "used"))) (gName 3)
      (tCB (fun xs H Q => (∃ a, xs = [V.str a] ∧ Q (V.str a) H) ∨ ∃ i, xs = [V.int i] ∧ i.natAbs.log2 < 1920 ∧ Q (V.str (Str.ofString (toString i))) H) (tCons (tVar 3) tNil)) [2, 3] [3] [v0, v1, v2, v3] H Q := by
  subst hv0
  refine ⟨hn, _, rfl, p, _, dx, _, _, rfl, hp, cP, nP, hl, fl, rfl, ⟨_, sq_of hfl⟩, fun D hD => ?_⟩
  have x1 := Ex.new (H := H) (o := SetTO P w NS D) hD
  have hf' := sq_of (K := K) (x1 _ _ hfl)
  refine ⟨fun i m H' => m = zs.length - i ∧ i ≤ zs.length ∧ H' = upd H D (SetTO P w NS D), ⟨zs.length, by omega, Nat.zero_le _, rfl⟩, ?_⟩
  rintro i m H' ⟨rfl, hi, rfl⟩
  by_cases e : i < zs.length
  · refine .inr ⟨walk_list.goes i _ e hf', fun H'' => H'' = upd H D (SetTO P w NS D), fun H'' e' => ⟨zs.length - (i + 1), by omega, rfl, e, e'⟩, fun x H'' y => ?_⟩
    obtain ⟨rfl, hx⟩ := walk_list.yields i _ x H'' e hf' y
    obtain ⟨a, C, dy, u, gs, us, rfl, h2, ⟨c1, n1⟩, h3, h4, h5⟩ := hr x (List.mem_of_getElem? hx)
    have h4' := ex_t x1 h4
    refine ⟨rfl, _, rfl, a, C, dy, gs, _, rfl, x1 _ _ h2, c1, n1, h3, u, rfl, ⟨_, h4'⟩, ?_⟩
    refine ⟨fun j k H' => k = us.length - j ∧ j ≤ us.length ∧ H' = upd H D (SetTO P w NS D), ⟨us.length, by omega, Nat.zero_le _, rfl⟩, ?_⟩
    rintro j k H' ⟨rfl, hj, rfl⟩
    by_cases e2 : j < us.length
    · have e3 : j < (us.map V.str).length := by rw [List.length_map]; exact e2
      refine .inr ⟨walk_tup.goes j _ e3 h4', fun H'' => H'' = upd H D (SetTO P w NS D), fun H'' e' => ⟨us.length - (j + 1), by omega, rfl, e2, e'⟩, fun x H'' y => ?_⟩
      obtain ⟨rfl, hx2⟩ := walk_tup.yields j _ x H'' e3 h4' y
      rw [List.getElem?_map] at hx2
      obtain ⟨z, hz, rfl⟩ := Option.map_eq_some_iff.mp hx2
      exact ⟨rfl, _, rfl, .inl ⟨z, rfl, z, rfl, h5 z (List.mem_of_getElem? hz), upd_same, rfl⟩⟩
    · obtain rfl : j = us.length := by omega
      refine .inl ⟨?_, rfl⟩
      have := walk_tup.stops _ h4'
      rw [List.length_map] at this
      exact this
  · obtain rfl : i = zs.length := by omega
    exact .inl ⟨walk_list.stops _ hf', q D hD⟩
section
variable {P : Program} {w : World} {K : PySem.W.Frag} {mg : Str → Option Value} {base : Heap} {NS : List Str}
theorem okF_Program_init (T : Txt w K mg) (GF : FR P w K mg base 14 (a_flat_rows K) (fun vs H Q => ∃ n, n ≤ 4 ∧ sp_flat_rows K NS n vs H Q)) {fd : FuncData} {dvs : List V} {kws : List (Str × V)} {x qual : Str} (F : FunD K x qual (defArgs s_Program_init) (defBody s_Program_init) (defScope s_Program_init) dvs kws (a_Program_init K) fd) : FnOk P w K mg base CX0 (15) (a_Program_init K) fd ["self", "rows"] (fun vs H Q _ => (sp_Program_init K NS) vs H Q) := by
  refine mkOk F sc_Program_init (fun vs H Q h => by obtain ⟨d, p, dx, ra, ws, rs, H0, rfl, ⟨e0, hp0, hp⟩, ⟨hra, hrs⟩, ⟨wf, few, deep, hn⟩, k⟩ := h; rfl) fun cdv A outer s H vs Q E hr h => ?_
  obtain ⟨d, p, dx, ra, ws, rs, H0, rfl, ⟨e0, hp0, hp⟩, ⟨hra, hrs⟩, ⟨wf, few, deep, hn⟩, k⟩ := h
  refine ⟨_, (pss_cons (kps_fld (K := K) rfl (pv 0) (pe_callF (ok_rows_of (K := K) T) (hr.mono (by omega)) (by rfl) T.g_rows_of T.k_rows_of (pa_cons (pv 1) pa_nil)) rfl)
  (pss_cons (kps_fld (K := K) rfl (pv 0) (pe_callF (GF) (hr.mono (by omega)) (by rfl) T.g_flat_rows T.k_flat_rows (pa_cons (kfld (K := K) rfl (pv 0) rfl) pa_nil)) rfl)
  (pss_cons (kps_fld (K := K) rfl (pv 0) (pe_callTy (kcall_tuple (K := K) rfl) (by rfl) T.z_tuple b_tuple (pa_cons (pe_callF (ok_lines_of (K := K) T) (hr.mono (by omega)) (by rfl) T.g_lines_of T.k_lines_of (pa_cons (kfld (K := K) rfl (pv 0) rfl) pa_nil)) pa_nil)) rfl)
  (pss_one (kps_fld (K := K) rfl (pv 0) (pe_callTy (kcall_tuple (K := K) rfl) (by rfl) T.z_tuple b_tuple (pa_cons (pe_callB (kcr_sortT (NS := NS) rfl rfl rfl) (by rfl) T.z_sorted b_sorted (pa_cons (pe_sc2 (K := K) (NS := NS) (own := [("row", 2), ("name", 3)]) (vs1 := [3]) rfl rfl rfl sc_Program_init.nd (kpi_list (K := K) rfl (kfld (K := K) rfl (pv 0) rfl)) (blkOk_by (own := [("row", 2), ("name", 3)]) (N := N_Program_init) (sc := defScope s_Program_init) (by decide +kernel)) (by decide) (fun _ _ _ _ _ => (pg_name (i := 2) sc_Program_init.nd rfl (Or.inl rfl))) (fun _ _ _ _ _ => (kpi_tup (K := K) rfl (kfld (K := K) rfl (pv 2) rfl))) (fun _ _ _ _ _ => (pg_name (i := 3) sc_Program_init.nd rfl (Or.inl rfl))) (fun _ _ _ _ _ => (pe_callTy call_strA (by rfl) T.z_str b_str (pa_cons (pv 3) pa_nil)))) pa_nil)) pa_nil)) rfl))))), ?_⟩
  obtain ⟨ir, ln⟩ := rows_is hrs
  have lw : ws.length = rs.length := paired_len hrs
  have lb := LB_le3 deep
  refine ⟨_, rfl, ra, ws, rfl, hra.mono e0, by omega, fun v hv => ?_, fun q H2 e2 hq => ?_⟩
  · obtain ⟨a, C, dy, fs, h1, h2, h3⟩ := ir v hv
    exact ⟨a, C, dy, fs, h1, e0 _ _ h2, h3⟩
  have hp2 := e2 _ _ hp
  refine ⟨_, rfl, p, _, dx, _, rfl, hp2, T.c_Program, T.n_Program_rows, (by show 0 < 1000; decide), ?_⟩
  have e3 : Ex H0 (upd H2 p (.ins (C_Program K) dx (putF "rows" (.ref q) []))) := (e0.trans e2).mut hp0
  have hq3 : SqT K (upd H2 p (.ins (C_Program K) dx (putF "rows" (.ref q) []))) q ws := sqT_wr hp2 (fun _ z => nomatch z) (fun _ _ z => nomatch z) hq
  generalize hH3 : upd H2 p (.ins (C_Program K) dx (putF "rows" (.ref q) [])) = H3 at e3 hq3 ⊢
  have hp3 : H3 p = some (.ins (C_Program K) dx [("rows", .ref q)]) := by rw [← hH3]; exact upd_same
  refine ⟨_, rfl, p, _, dx, _, _, rfl, hp3, T.c_Program, T.n_Program_rows, by kernel_rfl, d + 1, by omega, d, q, ws, rs, rm1 H3 p, rfl, rfl, ⟨rm1_ex _ _, rm1_T hp3 hq3, hrs.mono (rm1_sub e3 hp0)⟩, ⟨few, wf, deep⟩, fun zs fl H4 hzs hfl0 e4 h4 => ?_⟩
  have hp4 := e4 _ _ hp3
  have zl : zs.length ≤ 100000 := by
    rw [paired_len hzs]
    refine Nat.le_trans (flatO_len wf) (Nat.le_trans (Nat.mul_le_mul few (FB_le deep)) (by decide))
  refine ⟨_, rfl, p, _, dx, _, rfl, hp4, T.c_Program, T.n_Program_flat, (by show 1 < 1000; decide), ?_⟩
  have e5 : Ex (rm1 H3 p) (upd H4 p (.ins (C_Program K) dx (putF "flat" (.ref fl) [("rows", .ref q)]))) := ((rm1_ex _ _).trans e4).mut (rm1_no _ _)
  have h5 : (upd H4 p (.ins (C_Program K) dx (putF "flat" (.ref fl) [("rows", .ref q)]))) fl = some (.lst zs) := by rw [upd_ne (ne_of h4 hp4 (fun z => nomatch z))]; exact h4
  generalize hH5 : upd H4 p (.ins (C_Program K) dx (putF "flat" (.ref fl) [("rows", .ref q)])) = H5 at e5 h5 ⊢
  have hp5 : H5 p = some (.ins (C_Program K) dx [("rows", .ref q), ("flat", .ref fl)]) := by rw [← hH5]; exact upd_same.trans (by kernel_rfl)
  have hq5 : SqT K H5 q ws := ex_t e5 (rm1_T hp3 hq3)
  have s05 := (rm1_sub e3 hp0).trans e5
  refine ⟨_, rfl, p, _, dx, _, _, rfl, hp5, T.c_Program, T.n_Program_rows, by kernel_rfl, q, ws, LB d, rfl, hq5, by omega, lb, fun v hv => ?_, fun l H6 ls hl0 e6 h6 hls => ?_⟩
  · obtain ⟨a, C, dy, l, fs, ls, h1, h2, h3, h4, h5, h6⟩ := ln v hv
    exact ⟨a, C, dy, l, fs, ls, h1, s05 _ _ h2, h3, h4, ex_t s05 h5, h6⟩
  refine ⟨l, ls, rfl, .inl ⟨sq_of h6, fun t1 ht1 => ?_⟩⟩
  have x7 := Ex.new (H := H6) (o := .tup ls) ht1
  have hp7 := x7 _ _ (e6 _ _ hp5)
  refine ⟨_, rfl, p, _, dx, _, rfl, hp7, T.c_Program, T.n_Program_lines, (by show 2 < 1000; decide), ?_⟩
  have e8 : Ex (rm1 H3 p) (upd (upd H6 t1 (.tup ls)) p (.ins (C_Program K) dx (putF "lines" (.ref t1) [("rows", .ref q), ("flat", .ref fl)]))) := ((e5.trans e6).trans x7).mut (rm1_no _ _)
  have h8 : (upd (upd H6 t1 (.tup ls)) p (.ins (C_Program K) dx (putF "lines" (.ref t1) [("rows", .ref q), ("flat", .ref fl)]))) fl = some (.lst zs) := by rw [upd_ne (ne_of h5 hp5 (fun z => nomatch z))]; exact x7 _ _ (e6 _ _ h5)
  generalize hH8 : upd (upd H6 t1 (.tup ls)) p (.ins (C_Program K) dx (putF "lines" (.ref t1) [("rows", .ref q), ("flat", .ref fl)])) = H8 at e8 h8 ⊢
  have hp8 : H8 p = some (.ins (C_Program K) dx [("rows", .ref q), ("flat", .ref fl), ("lines", .ref t1)]) := by rw [← hH8]; exact upd_same.trans (by kernel_rfl)
  dsimp only [sFld, tCB, tCons]
  refine sc2_names (K := K) (fl := fl) (zs := zs) hn hp8 rfl T.c_Program T.n_Program_flat (by kernel_rfl) h8 (fun v hv => ?_) fun D hD => ?_
  · obtain ⟨o, ho⟩ := paired_mem hzs hv
    obtain ⟨a, C, dy, u, gs, us, h1, h2, ⟨h3, h4, _, h5⟩, h6⟩ := FRow.mono e8 ho
    refine ⟨a, C, dy, u, gs, us, h1, h2, ?_, h3, h4, h5⟩
    have hC : isRowC K C := by
      cases o with
      | some x => exact .inl h6.1
      | none => rcases h6 with h6 | h6 | h6 <;> simp [isRowC, h6]
    exact ⟨(row_na T hC).1, (row_na T hC).2.2.2⟩
  have x9 := Ex.new (H := H8) (o := SetTO P w NS D) hD
  refine ⟨D, rfl, hn, upd_same, fun ys sl hys hsl => ?_⟩
  have x10 := Ex.new (o := .lst (ys.map V.str)) hsl
  refine ⟨sl, _, rfl, .inl ⟨sq_of upd_same, fun t2 ht2 => ?_⟩⟩
  have x11 := Ex.new (o := .tup (ys.map V.str)) ht2
  have x811 := x9.trans (x10.trans x11)
  have hp11 := x811 _ _ hp8
  refine ⟨_, rfl, p, _, dx, _, rfl, hp11, T.c_Program, T.n_Program_names, (by show 3 < 1000; decide), ?_⟩
  have e12 : Ex (rm1 H3 p) (upd _ p (.ins (C_Program K) dx (putF "names" (.ref t2) [("rows", .ref q), ("flat", .ref fl), ("lines", .ref t1)]))) := (e8.trans x811).mut (rm1_no _ _)
  refine k _ ((rm1_sub e3 hp0).trans e12) ⟨⟨dx, q, fl, t1, t2, ws, zs, upd_same.trans (by kernel_rfl), ⟨ex_t e12 (rm1_T hp3 hq3), hrs.mono ((rm1_sub e3 hp0).trans e12)⟩, ?_, zl⟩, wf, few, deep, hn⟩
  rw [upd_ne (ne_of h8 hp8 (fun z => nomatch z))]
  exact x811 _ _ h8
theorem FR.anyF (T : Txt w K mg) : FR P w K mg base 14 (a_flat_rows K) (fun vs H Q => ∃ n, n ≤ 4 ∧ sp_flat_rows K NS n vs H Q) := FR.any fun n hn => (ok_flat_rows T n).mono (by omega)
theorem ok_Program_init1 (T : Txt w K mg) : FR P w K mg base 15 (a_Program_init K) (sp_Program_init K NS) := by
  obtain ⟨fd, F⟩ := T.d_Program_init
  refine (okFr (dvs := []) (okF_Program_init T (FR.anyF T) F) (F.binds1 2 1 (fun z => nomatch z) rfl fun T kV doc pm an cdv ct us its l1 l2 => ?_)).imp fun vs H Q q => by rw [List.append_nil]; exact q
  match us, its, l1, l2 with
  | [_, _], [_], _, _ => exact ⟨_, rfl, rfl⟩
def sp_Program_init0 (K : PySem.W.Frag) (NS : List Str) : SP0 := fun vs H Q => ∃ (p dx : Addr) (H0 : Hp), vs = [.ref p] ∧ NewAt K H0 H p (C_Program K) dx ∧ NS.length ≤ 20 ∧ ∀ H', Ex H0 H' → ProgAt K NS 2 H' p [] → Q .non H'
theorem ok_Program_init0 (T : Txt w K mg) : FR P w K mg base 15 (a_Program_init K) (sp_Program_init0 K NS) := by
  obtain ⟨fd, F⟩ := T.d_Program_init
  refine (okFr (okF_Program_init (NS := NS) T (FR.anyF T) F) (F.binds1 1 0 (fun z => nomatch z) rfl fun T kV doc pm an cdv ct us its l1 l2 => ?_)).imp fun vs H Q q => ?_
  · match us, its, l1, l2 with
    | [_], [_], _, _ => exact ⟨_, rfl, rfl⟩
  · obtain ⟨p, dx, H0, rfl, nw, hn, k⟩ := q
    exact ⟨2, p, dx, _, [], [], H0, rfl, nw, ⟨.inr (empty_tup T.x_dProgram), .nil⟩, ⟨fun r hr => (nomatch hr), by decide, by decide, hn⟩, k⟩
def sp_Program_add (K : PySem.W.Frag) (NS : List Str) : SP0 := fun vs H Q => ∃ (d : Nat) (p q : Addr) (rs os : List (Rw d)), vs = [.ref p, .ref q] ∧ ProgAt K NS d H p rs ∧ ProgAt K NS d H q os ∧ rs.length + os.length ≤ 24 ∧ ∀ r H', Ex H H' → ProgAt K NS d H' r (rs ++ os) → Q (.ref r) H'
def sp_Program_len (K : PySem.W.Frag) (NS : List Str) : SP0 := fun vs H Q => ∃ (d : Nat) (p : Addr) (rs : List (Rw d)), vs = [.ref p] ∧ ProgAt K NS d H p rs ∧ ∀ n : Nat, n ≤ 100000 → Q (.int n) H
theorem iteF {A B : Prop} (h : B) : if (!true) = true then A else B := h
theorem pfr (ra fl li nm : Addr) : ([("rows", .ref ra), ("flat", .ref fl), ("lines", .ref li), ("names", .ref nm)] : List (Str × V)).lookup ("rows" : Str) = some (.ref ra) := by kernel_rfl
theorem ok_Program_add (T : Txt w K mg) : FR P w K mg base 17 (a_Program_add K) (sp_Program_add K NS) := by
  obtain ⟨fd, F⟩ := T.d_Program_add
  refine mkR F sc_Program_add (fun _ _ _ _ _ _ us hl => match us, hl with | [_, _], _ => rfl) (fun vs H Q h => by obtain ⟨d, p, q, rs, os, rfl, hp, hq, hz, k⟩ := h; rfl) fun cdv A outer s H vs Q E hr h => ?_
  obtain ⟨d, p, q, rs, os, rfl, hp, hq, hz, k⟩ := h
  refine ⟨_, (pss_cons (ps_if (pt_not (pt_val (pe_callB (kcall_isi (K := K) rfl) (by rfl) T.z_isinstance b_isinstance (pa_cons (pv 1) (pa_cons (pe_glob (v := .ref _) rfl T.g_Program rfl) pa_nil))))) (pss_one (ps_never)) pss_nil)
  (pss_one (ps_ret (pe_makeF T.k_Program (ok_Program_init1 (K := K) (NS := NS) T) (hr.mono (by omega)) (by rfl) T.g_Program (pa_cons (pe_op (kop_catA (K := K) rfl) (kfld (K := K) rfl (pv 0) rfl) (kfld (K := K) rfl (pv 1) rfl)) pa_nil))))), ?_⟩
  obtain ⟨⟨dx, ra, fl, li, nm, ws, zs, h1, ⟨h2, h3⟩, h4, h5⟩, wf1, few1, deep, hn⟩ := hp
  obtain ⟨⟨dx', ra', fl', li', nm', ws', zs', g1, ⟨g2, g3⟩, g4, g5⟩, wf2, few2, _, _⟩ := hq
  refine ⟨_, rfl, _, _, _, _, true, rfl, .own _, inst_ty T.x_inst_Program T.c_Program g1, of_decide_eq_true T.x_is_Program_Program, true, rfl, ?_⟩
  refine iteF ?_
  have fin : ∀ ta H1, Ex H H1 → SqT K H1 ta (ws ++ ws') → tMakeF (C_Program K) (sp_Program_init K NS) (fun σ H Q => Q [.ref ta] H) [some (.ref p), some (.ref q)] H1 Q := fun ta H1 e1 ht x dy hx hdy hne =>
    ⟨d, x, dy, ta, ws ++ ws', rs ++ os, H1, rfl, newAt hx hdy hne, ⟨.inr ht, paired_append (RowsAt.mono e1 h3) (RowsAt.mono e1 g3)⟩, ⟨fun r hr => (List.mem_append.mp hr).elim (wf1 r) (wf2 r), by rw [List.length_append]; exact hz, deep, hn⟩, fun H' e' z => ⟨rfl, k x H' (e1.trans e') z⟩⟩
  have l1 : ws.length = rs.length := paired_len h3
  have l2 : ws'.length = os.length := paired_len g3
  refine ⟨_, rfl, p, _, dx, _, _, rfl, h1, T.c_Program, T.n_Program_rows, pfr _ _ _ _, _, rfl, q, _, dx', _, _, rfl, g1, T.c_Program, T.n_Program_rows, pfr _ _ _ _, ra, ra', ws, ws', rfl, rfl, h2, g2, Nat.le_trans (show _ ≤ 24 by omega) (by decide), fun e => ?_, fun _ e => ?_, fun _ _ s hs => ?_⟩
  · subst e
    exact fin ra' H (Ex.refl H) g2
  · subst e
    exact fin ra H (Ex.refl H) (by rw [List.append_nil]; exact h2)
  · exact fin s _ (Ex.new hs) (SqT.of upd_same)
theorem ok_Program_len (T : Txt w K mg) : FR P w K mg base 1 (a_Program_len K) (sp_Program_len K NS) := by
  obtain ⟨fd, F⟩ := T.d_Program_len
  refine mkR F sc_Program_len (fun _ _ _ _ _ _ us hl => match us, hl with | [_], _ => rfl) (fun vs H Q h => by obtain ⟨d, p, rs, rfl, hp, k⟩ := h; rfl) fun cdv A outer s H vs Q E hr h => ?_
  obtain ⟨d, p, rs, rfl, hp, k⟩ := h
  refine ⟨_, (pss_one (ps_ret (pe_callB (kcall_len (K := K) rfl) (by rfl) T.z_len b_len (pa_cons (kfld (K := K) rfl (pv 0) rfl) pa_nil)))), ?_⟩
  obtain ⟨⟨dx, ra, fl, li, nm, ws, zs, h1, ⟨h2, h3⟩, h4, h5⟩, _⟩ := hp
  exact ⟨_, rfl, p, _, dx, _, _, rfl, h1, T.c_Program, T.n_Program_flat, by kernel_rfl, fl, zs, rfl, .inl (sq_of h4), k _ h5⟩
end
section
variable {X : Cx} {k : Nat} {f C : Addr} {sp : SP0} {e o : Expr} {es : List Expr} {t : TA} {te : TE} {x : Str} {p pos : Pos} {i : Nat}
/-- cls(e, ..), cls a parameter that holds the class -/
def tClsF (C : Addr) (sp : SP0) (te : TE) (t : TA) : TE := fun σ H Q => te σ H fun y H0 => y = .ref C ∧ t σ H0 fun vs H1 => ∀ x dx, H1 x = Option.none → H1 dx = Option.none → dx ≠ x →
  sp (V.ref x :: vs) (upd (upd H1 dx (.own x)) x (.ins C dx [])) (fun v H2 => v = .non ∧ Q (.ref x) H2)
theorem pe_clsCall {K : PySem.W.Frag} (hK : X.K = K) (M : Mk K C f) (F : FR X.prog X.w K X.mg X.base k f sp) (hr : Room (k + 1) X.A) (hn : PE X (.Name x p) te) (ha : PA X (e :: es) t)
    (he : starEach (e :: es) X.env = (false, eval e X.env) :: starEach es X.env := by rfl) (hpl : (backTo pos (starEach es X.env)).any (·.1) = false := by rfl) : PE X (.Call (.Name x p) (e :: es) [] pos) (tClsF C sp te t) := by
  subst hK
  refine ⟨fun pins s σ H Q I h => ?_⟩
  refine wpAny_Call_Name_kw (thn (hn.run pins s σ H _ I h) fun v s1 ⟨y, H1, I1, r1, ey, q1⟩ => ?_)
  subst ey
  obtain rfl : v = Value.ref C := r1
  refine PySem.W.callWith_K (h₀ := X.base) I1.ok.mod.kin M.kp (thn (ha.run pos pins s1 σ H1 _ I1 q1) fun us s2 ⟨vs, H2, I2, r, q⟩ => ⟨I2.kIn, ?_⟩) he hpl
  exact StX.run_makeR (E := E0) M F hr pass0 I2 r q
end
section
variable {P : Program} {w : World} {K : PySem.W.Frag} {mg : Str → Option Value} {base : Heap} {NS : List Str}
def sp_Program_read (K : PySem.W.Frag) (NS : List Str) : SP0 := fun vs H Q => ∃ rs : List Lb, vs = [.ref (C_Program K), .str (textOf (allTks rs))] ∧ (allTks rs).length ≤ 12 ∧ ((∀ t ∈ allTks rs, t.wf NS) ∧ ∀ y ∈ NS, isNm y) ∧ ((∀ r ∈ rs.map Lb.rw, Rw.wf NS 2 r) ∧ rs.length ≤ 24 ∧ NS.length ≤ 20) ∧ ∀ q H', Ex H H' → ProgAt K NS 2 H' q (rs.map Lb.rw) → Q (.ref q) H'
theorem ok_Program_read (T : Txt w K mg) : FR P0 w K mg base 18 (a_Program_read K) (sp_Program_read K NS) := by
  obtain ⟨fd, F⟩ := T.d_Program_read
  refine mkR F sc_Program_read (fun _ _ _ _ _ _ us hl => match us, hl with | [_, _], _ => rfl) (fun vs H Q h => by obtain ⟨rs, rfl, hz, ⟨wf, hNS⟩, ⟨wr, few, hn⟩, k⟩ := h; rfl) fun cdv A outer s H vs Q E hr h => ?_
  obtain ⟨rs, rfl, hz, ⟨wf, hNS⟩, ⟨wr, few, hn⟩, k⟩ := h
  refine ⟨_, (pss_one (ps_ret (pe_clsCall rfl T.k_Program (ok_Program_init1 (K := K) (NS := NS) T) (hr.mono (by omega)) (pv 0) (pa_cons (pe_callF (ok_rows_in (K := K) (NS := NS) T) (hr.mono (by omega)) (by rfl) T.g_rows_in T.k_rows_in (pa_cons (pv 1) pa_nil)) pa_nil)))), ?_⟩
  refine ⟨_, rfl, rfl, _, rfl, rs, rfl, hz, ⟨wf, hNS⟩, fun r vs H1 e1 h1 hr => ?_⟩
  intro x dx hx hdx hne
  exact ⟨2, x, dx, r, vs, rs.map Lb.rw, H1, rfl, newAt hx hdx hne, ⟨.inl h1, hr⟩, ⟨wr, by rw [List.length_map]; exact few, by decide, hn⟩, fun H' e' z => ⟨rfl, k x H' (e1.trans e') z⟩⟩
end
end E97
set_option Elab.async false
set_option linter.all false
set_option maxRecDepth 100000
set_option maxHeartbeats 4000000
/-! P14: the law's source of draws -/
namespace E97
open PySem PySem.Spec PyProof.Rows L2 Evl NdefX
/-- the source of draws at a, its cells at cl; neither among what is asked later -/
structure DlAt (H0 H : Hp) (a cl : Addr) : Prop where
  ex : Ex H0 H
  fra : H0 a = none
  frc : H0 cl = none
  ne : a ≠ cl
  ob : ∃ x z : Int, H a = some (.lst [.ref cl, .int x, .int z])
  cells : ∃ cs : List Int, H cl = some (.lst (cs.map V.int)) ∧ cs.length ≤ 100000
section
variable {K : PySem.W.Frag} {H0 H H' : Hp} {a cl : Addr}
theorem DlAt.mono (m : DlAt H0 H a cl) (e : Ex H H') : DlAt H0 H' a cl := ⟨m.ex.trans e, m.fra, m.frc, m.ne, let ⟨x, z, h⟩ := m.ob; ⟨x, z, e _ _ h⟩, let ⟨cs, h, z⟩ := m.cells; ⟨cs, e _ _ h, z⟩⟩
theorem DlAt.big (m : DlAt H0 H a cl) : DlAt (rm2 H a cl) H a cl := ⟨rm2_ex _ _ _, by unfold rm2; rw [if_pos (.inl rfl)], by unfold rm2; rw [if_pos (.inr rfl)], m.ne, m.ob, m.cells⟩
theorem DlAt.sub (m : DlAt H0 H a cl) : Ex H0 (rm2 H a cl) := fun b o h => rm2_of (m.ex b o h) (fun e => by rw [e, m.fra] at h; cases h) (fun e => by rw [e, m.frc] at h; cases h)
theorem DlAt.down {H1 : Hp} (e : Ex H1 H0) (m : DlAt H0 H a cl) : DlAt H1 H a cl := ⟨e.trans m.ex, fresh_back e m.fra, fresh_back e m.frc, m.ne, m.ob, m.cells⟩
/-- what is new since H0 stays, too -/
theorem DlAt.keep (m : DlAt H0 H a cl) {b : Addr} {o : HO} (h : H b = some o) (h1 : b ≠ a) (h2 : b ≠ cl) : rm2 H a cl b = some o := rm2_of h h1 h2
theorem DlAt.keepT (m : DlAt H0 H a cl) {b : Addr} {xs : List V} (h : SqT K H b xs) : SqT K (rm2 H a cl) b xs := by
  obtain ⟨x, z, ha⟩ := m.ob
  obtain ⟨cs, hc, _⟩ := m.cells
  rcases h with (h | ⟨o, h⟩) | h
  · exact .inl (.inl (rm2_of h (ne_of h ha (fun z => nomatch z)) (ne_of h hc (fun z => nomatch z))))
  · exact .inl (.inr ⟨o, rm2_of h (ne_of h ha (fun z => nomatch z)) (ne_of h hc (fun z => nomatch z))⟩)
  · exact .inr h
theorem DlAt.put (m : DlAt H0 H a cl) {x z : Int} : DlAt H0 (upd H a (.lst [.ref cl, .int x, .int z])) a cl :=
  ⟨m.ex.mut m.fra, m.fra, m.frc, m.ne, ⟨x, z, upd_same⟩, let ⟨cs, h, z⟩ := m.cells; ⟨cs, by rw [upd_ne m.ne.symm]; exact h, z⟩⟩
theorem DlAt.len (m : DlAt H0 H a cl) {cs : List Int} (h : H cl = some (.lst (cs.map V.int))) : cs.length ≤ 100000 := by
  obtain ⟨cs', h', z⟩ := m.cells
  rw [h] at h'
  have e := congrArg List.length (HO.lst.inj (Option.some.inj h'))
  rw [List.length_map, List.length_map] at e
  omega
theorem DlAt.pop (m : DlAt H0 H a cl) {cs : List Int} (hcs : cs.length ≤ 100000) : DlAt H0 (upd H cl (.lst (cs.map V.int))) a cl :=
  ⟨m.ex.mut m.frc, m.fra, m.frc, m.ne, let ⟨x, z, h⟩ := m.ob; ⟨x, z, by rw [upd_ne m.ne]; exact h⟩, ⟨cs, upd_same, hcs⟩⟩
end
def sp_law_deal (K : PySem.W.Frag) : SP0 := fun vs H Q => ∃ (s : Addr) (ns : List Int), vs = [.ref s, .int 0] ∧ SqL K H s (ns.map V.int) ∧ ∀ a cl H', DlAt H H' a cl → Q (.ref a) H'
def sp_law_draw : SP0 := fun vs H Q => ∃ (a cl : Addr) (n : Int) (H0 : Hp), vs = [.ref a, .int n] ∧ DlAt H0 H a cl ∧ (1 ≤ n ∧ n ≤ 1000) ∧ ∀ i H', (0 ≤ i ∧ i < n) → DlAt H0 H' a cl → Q (.int i) H'
section
variable {P : Program} {w : World} {K : PySem.W.Frag} {mg : Str → Option Value} {base : Heap} {NS : List Str}
theorem ints_fm (F : Int → V) (G : V → Option V) (h : ∀ i, G (.int i) = some (F i)) : ∀ ns : List Int, (ns.map V.int).filterMap G = ns.map F
  | [] => rfl
  | i :: r => by
    rw [List.map_cons, List.filterMap_cons, h, ints_fm F G h r]
    rfl
theorem ints_fm2 (F : Int → Bool) (G : V → Option V) (h : ∀ i, G (.int i) = if F i = true then some (.int i) else none) : ∀ ns : List Int, ∃ gs : List Int, (ns.map V.int).filterMap G = gs.map V.int
  | [] => ⟨[], rfl⟩
  | i :: r => by
    obtain ⟨gs, hg⟩ := ints_fm2 F G h r
    rw [List.map_cons, List.filterMap_cons, h, hg]
    cases F i with
    | true => exact ⟨i :: gs, rfl⟩
    | false => exact ⟨gs, rfl⟩
theorem cut_ints {ns : List Int} {lo hi : Option Int} : ∃ ms : List Int, cutV (ns.map V.int) lo hi = ms.map V.int ∧ ms.length ≤ ns.length := by
  refine ⟨(ns.drop (HT.sIx (ns.map V.int).length 0 lo)).take (HT.sIx (ns.map V.int).length (ns.map V.int).length hi - HT.sIx (ns.map V.int).length 0 lo), ?_, ?_⟩
  · unfold cutV
    rw [List.map_take, List.map_drop]
  · rw [List.length_take, List.length_drop]
    omega
theorem cut63 (ns : List Int) : ∃ ms : List Int, cutV (ns.map V.int) (some 0) (some 63) = ms.map V.int ∧ ms.length ≤ 63 := by
  refine ⟨(ns.drop (HT.sIx (ns.map V.int).length 0 (some 0))).take (HT.sIx (ns.map V.int).length (ns.map V.int).length (some 63) - HT.sIx (ns.map V.int).length 0 (some 0)), ?_, ?_⟩
  · unfold cutV
    rw [List.map_take, List.map_drop]
  · rw [List.length_take, show (some 63 : Option Int) = some ((63 : Nat) : Int) from rfl, HT.sIx_nat]
    omega
theorem el_lcNew {K : PySem.W.Frag} {tl : TE} {g : TG} {tt : TT} {te : TE} {vs : List Nat} {σ : L2.St} {H : Hp} {xs : List V} (F : V → Option V) (h : EvL tl σ H xs) (hz : xs.length ≤ 100000) (hs : ∀ x ∈ xs, Turn g tt te vs σ H x (F x)) : EvL (tLc (iList K tl) g tt te vs) σ H (xs.filterMap F) := fun H1 e Q q =>
  h H1 e _ fun p H2 hp e2 h2 => by
    have c := el_lcLF (K := K) (tl := tC (.ref p)) (g := g) (tt := tt) (te := te) (vs := vs) (σ := σ) (H := H2) F (fun H1 e Q q => q H1 (Ex.refl H1)) (sq_of h2) hz fun x hx H3 e3 => hs x hx H3 ((e.trans e2).trans e3)
    exact c H2 (Ex.refl _) Q fun p' H3 hp' e3 h3 => q p' H3 (fresh_back e2 hp') (e2.trans e3) h3
theorem ok_law_draw (T : Txt w K mg) : FR P w K mg base 1 (a_law_draw K) (sp_law_draw) := by
  obtain ⟨fd, F⟩ := T.d_law_draw
  refine mkR F sc_law_draw (fun _ _ _ _ _ _ us hl => match us, hl with | [_, _], _ => rfl) (fun vs H Q h => by obtain ⟨a, cl, n, H0, rfl, m, ⟨n1, n2⟩, k⟩ := h; rfl) fun cdv A outer s H vs Q E hr h => ?_
  obtain ⟨a, cl, n, H0, rfl, m, ⟨n1, n2⟩, k⟩ := h
  refine ⟨_, (pss_cons (ps_while PassesOwn.never (PW.pt (pw_and (pt_cmpR op_eq (pe_ix (kix_list (K := K) rfl) (pv 0) pe_int (fun _ _ => rfl)) pe_int (nomark _)) (pw_and1 (pt_cmpR op_gt (pe_callB (kcall_len (K := K) rfl) (by rfl) T.z_len b_len (pa_cons (pe_ix (kix_list (K := K) rfl) (pv 0) pe_int (fun _ _ => rfl)) pa_nil)) pe_int (nomark _))))) (pss_one (ps_asg (kpe_bm0 (K := K) rfl PySem.F.plainAttrs_list PySem.F.slot_list_pop PySem.F.type_list_pop mt_pop (pe_ix (kix_list (K := K) rfl) (pv 0) pe_int (fun _ _ => rfl))) (pg_sub (pv 0) pe_int set_list))))
  (pss_cons (ps_if (pt_cmpR op_gt (pe_ix (kix_list (K := K) rfl) (pv 0) pe_int (fun _ _ => rfl)) pe_int (nomark _)) (pss_cons (ps_set (i := 2) sc_law_draw.nd rfl (Or.inl rfl) (pe_op op_modN (pe_callTy call_int1 (by rfl) T.z_int b_int (pa_cons (pe_ix (kix_list (K := K) rfl) (pv 0) pe_int (fun _ _ => rfl)) pa_nil)) (pv 1)))
  (pss_cons (ps_asg (pe_op op_fdivN (pe_ix (kix_list (K := K) rfl) (pv 0) pe_int (fun _ _ => rfl)) (pv 1)) (pg_sub (pv 0) pe_int set_list))
  (pss_one (ps_ret (pv 2))))) pss_nil)
  (pss_cons (ps_asg (pe_op op_modN (pe_callTy call_int1 (by rfl) T.z_int b_int (pa_cons (pe_op op_add (pe_op op_mul (pe_ix (kix_list (K := K) rfl) (pv 0) pe_int (fun _ _ => rfl)) pe_int) pe_int) pa_nil)) pe_int) (pg_sub (pv 0) pe_int set_list))
  (pss_one (ps_ret (pe_op op_modN (pe_callTy call_int1 (by rfl) T.z_int b_int (pa_cons (pe_op op_fdivN (pe_ix (kix_list (K := K) rfl) (pv 0) pe_int (fun _ _ => rfl)) pe_int) pa_nil)) (pv 1))))))), ?_⟩
  have cond : ∀ (H1 : Hp) (x z : Int) (cs : List Int), H1 a = some (.lst [.ref cl, .int x, .int z]) → H1 cl = some (.lst (cs.map V.int)) → EvT (tAnd (tTest (tOp rEq (tOp (rIxL K) (tVar 0) (tC (V.int 1))) (tC (V.int 0))))
        (tTest (tOp (rI0 fun i j => V.bl (decide (j < i))) (tCB (rLenS K) (tCons (tOp (rIxL K) (tVar 0) (tC (V.int 0))) tNil)) (tC (V.int 0))))) [some (.ref a), some (.int n), none] H1 (decide (x = 0) && decide ((0 : Int) < ((cs.map V.int).length : Int))) := fun H1 x z cs ha hc H2 e Q2 q => by
    refine ⟨_, rfl, _, _, _, _, rfl, rfl, sq_of (e _ _ ha), rfl, rfl, _, rfl, ?_⟩
    refine iteI (fun c => ?_) fun c => ?_
    · rw [decide_eq_true c] at q
      exact ⟨_, rfl, _, _, _, _, rfl, rfl, sq_of (e _ _ ha), rfl, cl, _, rfl, .inl (sq_of (e _ _ hc)), _, _, rfl, rfl, _, rfl, q H2 (Ex.refl _)⟩
    · rw [decide_eq_false c] at q
      exact q H2 (Ex.refl _)
  obtain ⟨cs0, hc0, _⟩ := m.cells
  refine q_while (fun j σ' H' => σ' = [some (.ref a), some (.int n), none] ∧ DlAt H0 H' a cl ∧ ∃ cs : List Int, cs.length = j ∧ H' cl = some (.lst (cs.map V.int))) cs0.length ⟨rfl, m, cs0, rfl, hc0⟩ ?_
  rintro j σ' H1 ⟨rfl, m1, cs, hj, hc⟩
  obtain ⟨x, z, ha⟩ := m1.ob
  refine ⟨_, cond H1 x z cs ha hc, fun hb H2 e2 => ?_, fun hb H2 e2 => ?_⟩
  · refine ⟨fun σ2 H3 => σ2 = [some (.ref a), some (.int n), none] ∧ DlAt H0 H3 a cl ∧ ∃ cs : List Int, cs.length = j - 1 ∧ H3 cl = some (.lst (cs.map V.int)), fun σ2 H3 h3 => ⟨j - 1, ?_, h3⟩, ?_⟩
    · have := of_decide_eq_true (Bool.and_eq_true _ _ |>.mp hb).2
      rw [List.length_map] at this
      omega
    · have hlen := of_decide_eq_true (Bool.and_eq_true _ _ |>.mp hb).2
      rw [List.length_map] at hlen
      have ha2 := e2 _ _ ha
      have hc2 := e2 _ _ hc
      obtain ⟨y, hy⟩ : ∃ y, cs[cs.length - 1]? = some y := ⟨cs[cs.length - 1]'(by omega), List.getElem?_eq_getElem _⟩
      refine ⟨_, rfl, _, _, _, _, rfl, rfl, sq_of ha2, rfl, tyL hc2, cl, _, .int y, rfl, rfl, hc2, ?_, ?_⟩
      · rw [List.length_map, List.getElem?_map, hy]
        rfl
      · have m2 := (m1.mono e2).pop (cs := cs.dropLast) (by have := m1.len hc; rw [List.length_dropLast]; omega)
        have ha3 : (upd H2 cl (.lst (cs.map V.int).dropLast)) a = some (.lst [.ref cl, .int x, .int z]) := by rw [upd_ne m1.ne]; exact ha2
        refine ⟨_, rfl, a, _, 1, 1, rfl, rfl, ha3, rfl, rfl, ?_⟩
        rw [← List.map_dropLast]
        refine ⟨m2.put (x := y) (z := z), cs.dropLast, by rw [List.length_dropLast, hj], ?_⟩
        rw [upd_ne m1.ne.symm]
        exact upd_same
  · have m2 := m1.mono e2
    have ha2 := e2 _ _ ha
    refine ⟨_, rfl, _, _, _, _, rfl, rfl, sq_of ha2, rfl, _, _, rfl, rfl, _, rfl, ?_⟩
    refine iteD (fun c => ?_) fun c => ?_
    · refine ⟨_, rfl, _, _, _, _, rfl, rfl, sq_of ha2, rfl, .inl ⟨_, rfl, ?_⟩⟩
      refine ⟨_, rfl, _, _, rfl, rfl, by omega, ?_⟩
      refine ⟨_, rfl, _, _, _, _, rfl, rfl, sq_of ha2, rfl, _, rfl, _, _, rfl, rfl, ⟨by omega, by omega⟩, ?_⟩
      refine ⟨_, rfl, a, _, 1, 1, rfl, rfl, ha2, rfl, ?_⟩
      exact ⟨_, rfl, k _ _ ⟨Int.fmod_nonneg_of_pos _ (by omega), Int.fmod_lt_of_pos _ (by omega)⟩ m2.put⟩
    · refine ⟨_, rfl, _, _, _, _, rfl, rfl, sq_of ha2, rfl, _, _, rfl, rfl, .inr ⟨by decide, by decide⟩, _, _, rfl, rfl, .inl ⟨_, rfl, ?_⟩⟩
      refine ⟨_, _, rfl, rfl, (show (2147483647 : Int) ≠ 0 by decide), ?_⟩
      refine ⟨_, rfl, a, _, 2, 2, rfl, rfl, ha2, rfl, ?_⟩
      refine ⟨_, rfl, _, _, _, _, rfl, rfl, sq_of upd_same, rfl, _, _, rfl, rfl, ⟨by decide, by decide⟩, .inl ⟨_, rfl, ?_⟩⟩
      exact ⟨_, rfl, _, _, rfl, rfl, by omega, k _ _ ⟨Int.fmod_nonneg_of_pos _ (by omega), Int.fmod_lt_of_pos _ (by omega)⟩ m2.put⟩
theorem ok_law_deal (T : Txt w K mg) : FR P w K mg base 1 (a_law_deal K) (sp_law_deal K) := by
  obtain ⟨fd, F⟩ := T.d_law_deal
  refine mkR F sc_law_deal (fun _ _ _ _ _ _ us hl => match us, hl with | [_, _], _ => rfl) (fun vs H Q h => by obtain ⟨s, ns, rfl, hs, k⟩ := h; rfl) fun cdv A outer s H vs Q E hr h => ?_
  obtain ⟨s, ns, rfl, hs, k⟩ := h
  refine ⟨_, (pss_cons (ps_setLc (i := 3) (own := [("_law_cell", 2)]) rfl sc_law_deal.nd rfl rfl (sw_true rfl rfl rfl (by decide +kernel)) (kpi_list (K := K) rfl (pe_slice (ksl_list (K := K) rfl) (pv 0) (po_some (pv 1)) (po_some pe_int))) (blkOk_by (own := [("_law_cell", 2)]) (N := N_law_deal) (sc := defScope s_law_deal) (by decide +kernel)) (fun _ _ _ _ _ => (pg_name (i := 2) sc_law_deal.nd rfl (Or.inl rfl))) (fun _ _ _ _ _ => pts_nil) (fun _ _ _ _ _ => (pe_callB call_abs (by rfl) T.z_abs b_abs (pa_cons (pv 2) pa_nil))))
  (pss_cons (ps_set (i := 4) sc_law_deal.nd rfl (Or.inl rfl) (pe_op op_add pe_int (pe_op op_mul pe_int (pv 1))))
  (pss_cons (ps_for PassesOwn.never rfl (kpi_list (K := K) rfl (pv 3)) (pg_name (i := 2) sc_law_deal.nd rfl (Or.inl rfl)) (pss_one (ps_set (i := 4) sc_law_deal.nd rfl (Or.inl rfl) (pe_op op_modN (pe_callTy call_int1 (by rfl) T.z_int b_int (pa_cons (pe_op op_add (pe_op op_add (pe_op op_mul (pv 4) pe_int) (pe_op op_modN (pe_callTy call_int1 (by rfl) T.z_int b_int (pa_cons (pv 2) pa_nil)) pe_int)) pe_int) pa_nil)) pe_int))))
  (pss_one (ps_ret (pe_lst (pa_cons (kpe_revL (K := K) rfl (pe_lc (own := [("_law_cell", 2)]) rfl sc_law_deal.nd (kpi_list (K := K) rfl (pv 3)) (blkOk_by (own := [("_law_cell", 2)]) (N := N_law_deal) (sc := defScope s_law_deal) (by decide +kernel)) (fun _ _ _ _ _ => (pg_name (i := 2) sc_law_deal.nd rfl (Or.inl rfl))) (fun _ _ _ _ _ => (pts_one (pt_cmpR op_ge (pv 2) (pe_op op_pow pe_int pe_int) (nomark _)))) (fun _ _ _ _ _ => (pv 2)))) (pa_cons pe_int (pa_cons (pv 4) pa_nil))))))))), ?_⟩
  obtain ⟨ms, em, lm⟩ := cut63 ns
  have sl : EvL (tSl (rSlL K) (tVar 0) (tPart (tVar 1)) (tPart (tC (V.int 63)))) [some (.ref s), some (.int 0), none, none, none] H (ms.map V.int) := fun H1 e Q q =>
    ⟨_, rfl, _, rfl, 0, rfl, 63, rfl, s, _, rfl, ex_l e hs, fun p hp => q p _ hp (Ex.new hp) (by rw [← em]; exact upd_same)⟩
  have c1 := el_lcNew (K := K) (g := gName 2) (tt := tYes) (te := tCB (fun xs H Q => ∃ i, xs = [V.int i] ∧ Q (V.int (if i < 0 then -i else i)) H) (tCons (tVar 2) tNil)) (vs := [2]) (fun v => match v with | .int i => some (.int (if i < 0 then -i else i)) | _ => none) sl (by rw [List.length_map]; omega) fun x hx => by
    obtain ⟨i, _, rfl⟩ := List.mem_map.mp hx
    intro H1 e1 R kR
    exact ⟨rfl, _, rfl, _, rfl, kR H1 (Ex.refl H1)⟩
  rw [ints_fm (fun i => .int (if i < 0 then -i else i)) _ (fun i => rfl)] at c1
  have cl : ms.length ≤ 100000 := by omega
  refine q_asgL c1 fun c0 H2 hc0 e2 h2 => ?_
  obtain ⟨cs, hcs, h2⟩ : ∃ cs : List Int, cs.length ≤ 100000 ∧ H2 c0 = some (.lst (cs.map V.int)) := ⟨ms.map fun i : Int => if i < 0 then -i else i, by rw [List.length_map]; exact cl, by rw [List.map_map]; exact h2⟩
  refine ⟨_, rfl, _, _, rfl, rfl, .inr ⟨by decide, by decide⟩, _, _, rfl, rfl, ?_⟩
  refine ⟨_, rfl, c0, rfl, ⟨_, sq_of h2⟩, ?_⟩
  refine for_list (fun i σ' H' => Ex H2 H' ∧ ∃ (y : Option V) (z : Int), σ' = [some (.ref s), some (.int 0), y, some (.ref c0), some (.int z)]) ⟨Ex.refl _, _, _, rfl⟩ (fun i σ' H' _ p => sq_of (p.1 _ _ h2)) (fun i x σ' H' hx ⟨e3, y, z, hσ⟩ => ?_) fun σ' H3 ⟨e3, y, z, hσ⟩ => ?_
  · subst hσ
    rw [List.getElem?_map] at hx
    obtain ⟨c, _, rfl⟩ := Option.map_eq_some_iff.mp hx
    refine ⟨_, rfl, _, _, rfl, rfl, .inr ⟨by decide, by decide⟩, _, rfl, .inl ⟨_, rfl, _, _, rfl, rfl, (show (2147483629 : Int) ≠ 0 by decide), _, _, rfl, rfl, _, _, rfl, rfl, .inl ⟨_, rfl, _, _, rfl, rfl, (show (2147483647 : Int) ≠ 0 by decide), e3, _, _, rfl⟩⟩⟩
  · subst hσ
    have h3 := e3 _ _ h2
    have c2 := el_lcLF (K := K) (tl := tVar 3) (g := gName 2) (tt := tTest (tOp (rI0 fun i j => V.bl (decide (j ≤ i))) (tVar 2) (tOp (rI CPow fun i j => V.int (i ^ j.toNat)) (tC (V.int 10)) (tC (V.int 18))))) (te := tVar 2) (vs := [2]) (σ := [some (.ref s), some (.int 0), y, some (.ref c0), some (.int z)]) (H := H3) (xs := cs.map V.int) (fun v => match v with | .int i => if decide ((10 : Int) ^ (18 : Int).toNat ≤ i) = true then some (.int i) else none | _ => none) (ev_var rfl) (sq_of h3) (by rw [List.length_map]; exact hcs) fun x hx => by
      obtain ⟨i, _, rfl⟩ := List.mem_map.mp hx
      intro H1 e1 R kR
      refine ⟨rfl, _, rfl, _, _, rfl, rfl, ⟨by decide, by decide, by decide⟩, _, _, rfl, rfl, _, rfl, ?_⟩
      dsimp only at kR
      by_cases c : decide ((10 : Int) ^ (18 : Int).toNat ≤ i) = true
      · rw [if_pos c] at kR ⊢
        exact ⟨_, rfl, kR H1 (Ex.refl H1)⟩
      · rw [if_neg c] at kR ⊢
        exact kR H1 (Ex.refl H1)
    generalize hfm : (cs.map V.int).filterMap _ = fs at c2
    have lfs : fs.length ≤ 100000 := by
      rw [← hfm]
      exact Nat.le_trans (List.length_filterMap_le _ _) (by rw [List.length_map]; exact hcs)
    obtain ⟨gs, rfl⟩ : ∃ gs : List Int, fs = gs.map V.int := by
      rw [← hfm]
      exact ints_fm2 _ _ (fun i => rfl) cs
    dsimp only [tRet, tLst, tCons, tRevL]
    refine c2 H3 (Ex.refl _) _ fun p2 H4 hp2 e4 h4 => ?_
    refine ⟨p2, _, rfl, sq_of h4, fun p hp => ?_⟩
    rw [← List.map_reverse]
    have x5 := Ex.new (H := H4) (o := .lst (gs.reverse.map V.int)) hp
    refine ⟨_, rfl, (show 3 ≤ sizeLine by decide), fun d hd => ?_⟩
    have e04 := e2.trans (e3.trans e4)
    refine k d p _ ⟨e04.trans (x5.trans (Ex.new hd)), fresh_back (e04.trans x5) hd, fresh_back e04 hp, (ne_of_none upd_same hd).symm, ⟨0, z, upd_same⟩, ⟨gs.reverse, Ex.new hd _ _ upd_same, by rw [List.length_reverse]; rw [List.length_map] at lfs; exact lfs⟩⟩
end
end E97
set_option Elab.async false
set_option linter.all false
set_option maxRecDepth 100000
set_option maxHeartbeats 4000000
/-! P15: picks, names -/
namespace E97
open PySem PySem.Spec PyProof.Rows L2 Evl NdefX
def sp_law_pick (K : PySem.W.Frag) : SP0 := fun vs H Q => ∃ (a cl s : Addr) (xs : List V) (H0 : Hp), vs = [.ref a, .ref s] ∧ DlAt H0 H a cl ∧ SqL K H0 s xs ∧ (1 ≤ xs.length ∧ xs.length ≤ 1000) ∧ ∀ v ∈ xs, ∀ H', DlAt H0 H' a cl → Q v H'
def sp_law_pickS : SP0 := fun vs H Q => ∃ (a cl : Addr) (z : Str) (H0 : Hp), vs = [.ref a, .str z] ∧ DlAt H0 H a cl ∧ (1 ≤ z.cps.size ∧ z.cps.size ≤ 1000) ∧ ∀ c ∈ z.cps.toList, ∀ H', DlAt H0 H' a cl → Q (.str ⟨#[c]⟩) H'
def sp_law_words (K : PySem.W.Frag) : SP0 := fun vs H Q => ∃ (a cl : Addr) (n : Int) (H0 : Hp), vs = [.ref a, .int n] ∧ DlAt H0 H a cl ∧ (1 ≤ n ∧ n ≤ 4) ∧ ∀ (p : Addr) (NS : List Str) (H1 H' : Hp), Ex H0 H1 → DlAt H1 H' a cl → H1 p = some (.lst (NS.map V.str)) → (1 ≤ NS.length ∧ NS.length ≤ 4) → (∀ y ∈ NS, isNm y) → Q (.ref p) H'
def keptW : List Str := ["if", "end", "else", "not", "base", "sum", "last", "many", "root", "let", "same", "stop"]
theorem atI_in {α : Type} {xs : List α} {i : Int} (h : 0 ≤ i ∧ i < xs.length) : ∃ v ∈ xs, atI xs i = some v := by
  obtain ⟨j, rfl⟩ : ∃ j : Nat, i = j := ⟨i.toNat, by omega⟩
  have hj : j < xs.length := by omega
  exact ⟨xs[j], List.getElem_mem hj, atI_nat (List.getElem?_eq_getElem hj)⟩
theorem DlAt.other {K : PySem.W.Frag} {H0 H : Hp} {a cl p : Addr} {o : HO} (m : DlAt H0 H a cl) (hp : H0 p = none) (h1 : p ≠ a) (h2 : p ≠ cl) : DlAt H0 (upd H p o) a cl :=
  ⟨m.ex.mut hp, m.fra, m.frc, m.ne, let ⟨x, z, h⟩ := m.ob; ⟨x, z, by rw [upd_ne h1.symm]; exact h⟩, let ⟨cs, h, z⟩ := m.cells; ⟨cs, by rw [upd_ne h2.symm]; exact h, z⟩⟩
theorem DlAt.ne1 {H0 H : Hp} {a cl p : Addr} (m : DlAt H0 H a cl) (h : H p = none) : p ≠ a ∧ p ≠ cl := by
  obtain ⟨x, z, ha⟩ := m.ob
  obtain ⟨cs, hc, _⟩ := m.cells
  exact ⟨(ne_of_none ha h).symm, (ne_of_none hc h).symm⟩
theorem DlAt.ne0 {H0 H : Hp} {a cl p : Addr} {o : HO} (m : DlAt H0 H a cl) (h : H0 p = some o) : p ≠ a ∧ p ≠ cl := ⟨ne_of_none h m.fra, ne_of_none h m.frc⟩
/-- [e for i in range(n)], e draws -/
theorem dl_range {K : PySem.W.Frag} {a cl : Addr} {Hb H : Hp} {j n : Nat} {te : TE} {vs : List Nat} {σ : L2.St} {Q : VK} (Good : V → Prop) (hn : n ≤ 1000) (m : DlAt Hb H a cl)
    (hs : ∀ (i : Nat) (H1 Hb1 : Hp), i < n → Ex Hb Hb1 → DlAt Hb1 H1 a cl → ∀ R : VK, (∀ y H2, Good y → DlAt Hb1 H2 a cl → R y H2) → wipe ((wipe σ vs).set j (some (.int ((0 : Int) + i)))) vs = wipe σ vs ∧ te ((wipe σ vs).set j (some (.int ((0 : Int) + i)))) H1 R)
    (q : ∀ D ys H1 H', H D = none → Ex Hb H1 → H1 D = some (.lst ys) → DlAt H1 H' a cl → ys.length = n → (∀ y ∈ ys, Good y) → Q (.ref D) H') :
    ∀ D, H D = none → ∃ W : Nat → Nat → Hp → Prop, (∃ m, W 0 m (upd H D (.lst []))) ∧ ∀ i m H, W i m H →
      ((Itr 0 n).stop i H ∧ Q (.ref D) H) ∨ ((Itr 0 n).go i H ∧ ∃ Nx : Hp → Prop, (∀ H', Nx H' → ∃ m', m' < m ∧ W (i + 1) m' H') ∧ ∀ x H', (Itr 0 n).yld i H x H' → gName j x (wipe σ vs) H' fun σ2 H2 => wipe σ2 vs = wipe σ vs ∧ tYes σ2 H2 fun b H3 =>
        if b = true then te σ2 H3 fun y H4 => ∃ acc, H4 D = some (.lst acc) ∧ acc.length < sizeLine ∧ Nx (upd H4 D (.lst (acc ++ [y]))) else Nx H3) := fun D hD => by
  have hbD : Hb D = none := fresh_back m.ex hD
  obtain ⟨d1, d2⟩ := m.ne1 hD
  refine lc_it walk_range (fun i H' => ∃ ys : List V, ys.length = i ∧ (∀ y ∈ ys, Good y) ∧ DlAt Hb H' a cl ∧ H' D = some (.lst ys)) ⟨[], rfl, fun _ h => (nomatch h), m.other (K := K) hbD d1 d2, upd_same⟩ (fun _ _ _ _ => trivial) (fun i x H1 H2 hi ⟨ys, l, g, m1, hy⟩ yx => ?_) fun H1 ⟨ys, l, g, m1, hy⟩ => ?_
  · obtain ⟨rfl, rfl⟩ := yx
    obtain ⟨w1, w2⟩ := hs i H2 (rm2 H2 a cl) hi m1.sub m1.big (fun y H4 => ∃ acc, H4 D = some (.lst acc) ∧ acc.length < sizeLine ∧ ∃ ys : List V, ys.length = i + 1 ∧ (∀ y ∈ ys, Good y) ∧ DlAt Hb (upd H4 D (.lst (acc ++ [y]))) a cl ∧ (upd H4 D (.lst (acc ++ [y]))) D = some (.lst ys)) fun y H4 gy m4 =>
      ⟨ys, m4.ex _ _ (rm2_of hy d1 d2), Nat.lt_of_le_of_lt (show ys.length ≤ 1000 by omega) (by decide), ys ++ [y], by rw [List.length_append, l]; rfl, fun z hz => (List.mem_append.mp hz).elim (g z) fun h => by rw [List.mem_singleton.mp h]; exact gy, (m4.down m1.sub).other (K := K) hbD d1 d2, upd_same⟩
    exact ⟨w1, w2⟩
  · exact q D ys (rm2 H1 a cl) H1 hD m1.sub (rm2_of hy d1 d2) m1.big l g
/-- .. as a whole: between lo and hi turns -/
theorem dl_lc {K : PySem.W.Frag} {a cl : Addr} {Hb H : Hp} {j : Nat} {ta : TA} {te : TE} {vs : List Nat} {σ : L2.St} {Q : VK} {lo hi : Int} (Good : V → Prop) (m : DlAt Hb H a cl) (hb : 0 ≤ lo ∧ hi ≤ 1000)
    (hta : ∀ R : List V → Hp → Prop, (∀ d H3, lo ≤ d → d ≤ hi → DlAt Hb H3 a cl → R [.int d] H3) → ta σ H R)
    (hs : ∀ (i : Nat) (H1 Hb1 : Hp), i < 1000 → Ex Hb Hb1 → DlAt Hb1 H1 a cl → ∀ R : VK, (∀ y H2, Good y → DlAt Hb1 H2 a cl → R y H2) → wipe ((wipe σ vs).set j (some (.int ((0 : Int) + i)))) vs = wipe σ vs ∧ te ((wipe σ vs).set j (some (.int ((0 : Int) + i)))) H1 R)
    (q : ∀ D ys H1 H', Ex Hb H1 → H1 D = some (.lst ys) → DlAt H1 H' a cl → (lo ≤ ys.length ∧ ys.length ≤ hi) → (∀ y ∈ ys, Good y) → Q (.ref D) H') : tLc (iRng1 ta) (gName j) tYes te vs σ H Q :=
  hta _ fun d H3 h1 h2 m3 => ⟨d, rfl, by omega, by omega, dl_range (K := K) Good (n := d.toNat) (by omega) m3 (fun i H1 Hb1 hi => hs i H1 Hb1 (by omega)) fun D ys H1 H' hD e hy m' l g => q D ys H1 H' e hy m' (by omega) g⟩
theorem letters : ∀ c ∈ (Str.ofString "abcdefghijklmnopqrstuvwxyz").cps.toList, 97 ≤ c ∧ c ≤ 122 := by decide +kernel
theorem kept_nm : ∀ y ∈ keptW, isNm y := by
  have z : (keptW.all fun y => (decide (1 ≤ y.cps.size ∧ y.cps.size ≤ 4)) && y.cps.toList.all fun c => decide (97 ≤ c ∧ c ≤ 122)) = true := by decide +kernel
  intro y hy
  obtain ⟨h1, h2⟩ := (Bool.and_eq_true _ _).mp (List.all_eq_true.mp z y hy)
  exact ⟨of_decide_eq_true h1, fun c hc => of_decide_eq_true (List.all_eq_true.mp h2 c hc)⟩
theorem chars_of : ∀ ys : List V, (∀ v ∈ ys, ∃ c : Nat, v = .str ⟨#[c]⟩ ∧ 97 ≤ c ∧ c ≤ 122) → ∃ cs : List Nat, ys = cs.map (fun c => V.str ⟨#[c]⟩) ∧ ∀ c ∈ cs, 97 ≤ c ∧ c ≤ 122
  | [], _ => ⟨[], rfl, fun _ h => (nomatch h)⟩
  | v :: r, h => by
    obtain ⟨c, rfl, hc⟩ := h v List.mem_cons_self
    obtain ⟨cs, rfl, hcs⟩ := chars_of r fun v hv => h v (List.mem_cons_of_mem _ hv)
    exact ⟨c :: cs, rfl, fun d hd => by
      rcases List.mem_cons.mp hd with rfl | hd
      · exact hc
      · exact hcs d hd⟩
theorem join_chars : ∀ cs : List Nat, TL.joinL [] ((cs.map (fun c => (⟨#[c]⟩ : Str))).map TL.tl) = cs
  | [] => rfl
  | [c] => rfl
  | c :: d :: r => by
    show [c] ++ ([] ++ TL.joinL [] (((d :: r).map (fun c => (⟨#[c]⟩ : Str))).map TL.tl)) = c :: d :: r
    rw [join_chars (d :: r)]
    rfl
theorem word_nm (cs : List Nat) (h : 1 ≤ cs.length ∧ cs.length ≤ 4) (hc : ∀ c ∈ cs, 97 ≤ c ∧ c ≤ 122) : isNm (Txt.join (Str.ofString "") (cs.map (fun c => (⟨#[c]⟩ : Str)))) := by
  have e : TL.tl (Txt.join (Str.ofString "") (cs.map (fun c => (⟨#[c]⟩ : Str)))) = cs := by
    rw [TL.join_eq, TL.tl_join, show TL.tl (Str.ofString "") = [] from rfl, join_chars]
  have e2 : (Txt.join (Str.ofString "") (cs.map (fun c => (⟨#[c]⟩ : Str)))).cps.toList = cs := e
  refine ⟨?_, fun c hc' => hc c (by rw [e2] at hc'; exact hc')⟩
  rw [← Array.length_toList, e2]
  exact h
theorem if_pos_ {c A B : Prop} [Decidable c] (h : c) (a : A) : if c then A else B := by rw [if_pos h]; exact a
theorem if_neg_ {c A B : Prop} [Decidable c] (h : ¬ c) (b : B) : if c then A else B := by rw [if_neg h]; exact b
theorem flat_strs (NS : List Str) : (NS.map V.str).all flatV = true := List.all_eq_true.mpr fun v hv => by
  obtain ⟨y, _, rfl⟩ := List.mem_map.mp hv
  rfl
theorem inV_str {y : Str} {NS : List Str} (h : inV (V.str y) (NS.map V.str) = true) : y ∈ NS := by
  obtain ⟨v, hv, e⟩ := List.any_eq_true.mp h
  obtain ⟨z, hz, rfl⟩ := List.mem_map.mp hv
  have e : (z == y) = true := e
  rw [← eq_of_beq e]
  exact hz
theorem one_new (NS : List Str) (h : NS.length ≤ 3) {w : Str} (hw : isNm w) : ∃ (z : Str) (r : List V), (([w, "a", "b", "c", "d"] : List Str).map V.str).filterMap (fun v => if (!inV v (NS.map V.str)) = true then some v else none) = V.str z :: r ∧ isNm z := by
  have sub : ∀ v ∈ (([w, "a", "b", "c", "d"] : List Str).map V.str).filterMap (fun v => if (!inV v (NS.map V.str)) = true then some v else none), ∃ z, v = V.str z ∧ isNm z := fun v hv => by
    obtain ⟨u, hu, e⟩ := List.mem_filterMap.mp hv
    obtain ⟨y, hy, rfl⟩ := List.mem_map.mp hu
    split at e
    · cases e
      refine ⟨y, rfl, ?_⟩
      rcases List.mem_cons.mp hy with rfl | hy
      · exact hw
      · have z : ((["a", "b", "c", "d"] : List Str).all fun y => (decide (1 ≤ y.cps.size ∧ y.cps.size ≤ 4)) && y.cps.toList.all fun c => decide (97 ≤ c ∧ c ≤ 122)) = true := by decide +kernel
        obtain ⟨h1, h2⟩ := (Bool.and_eq_true _ _).mp (List.all_eq_true.mp z y hy)
        exact ⟨of_decide_eq_true h1, fun c hc => of_decide_eq_true (List.all_eq_true.mp h2 c hc)⟩
    · cases e
  cases q : (([w, "a", "b", "c", "d"] : List Str).map V.str).filterMap (fun v => if (!inV v (NS.map V.str)) = true then some v else none) with
  | cons v r =>
    obtain ⟨z, rfl, hz⟩ := sub v (by rw [q]; exact List.mem_cons_self)
    exact ⟨z, r, rfl, hz⟩
  | nil =>
    have all : ∀ y ∈ (["a", "b", "c", "d"] : List Str), y ∈ NS := fun y hy => by
      cases c : inV (V.str y) (NS.map V.str) with
      | true => exact inV_str c
      | false =>
        have hm : V.str y ∈ (([w, "a", "b", "c", "d"] : List Str).map V.str).filterMap (fun v => if (!inV v (NS.map V.str)) = true then some v else none) :=
          List.mem_filterMap.mpr ⟨V.str y, List.mem_map.mpr ⟨y, List.mem_cons_of_mem _ hy, rfl⟩, by rw [c]; rfl⟩
        rw [q] at hm
        cases hm
    have := len_sub (l := (["a", "b", "c", "d"] : List Str)) (m := NS) (by decide +kernel) all
    have e4 : (["a", "b", "c", "d"] : List Str).length = 4 := rfl
    omega
section
variable {P : Program} {w : World} {K : PySem.W.Frag} {mg : Str → Option Value} {base : Heap} {NS : List Str}
theorem ok_law_pick (T : Txt w K mg) : FR P w K mg base 2 (a_law_pick K) (sp_law_pick K) := by
  obtain ⟨fd, F⟩ := T.d_law_pick
  refine mkR F sc_law_pick (fun _ _ _ _ _ _ us hl => match us, hl with | [_, _], _ => rfl) (fun vs H Q h => by obtain ⟨a, cl, s, xs, H0, rfl, m, hs, ⟨l1, l2⟩, k⟩ := h; rfl) fun cdv A outer s H vs Q E hr h => ?_
  obtain ⟨a, cl, s, xs, H0, rfl, m, hs, ⟨l1, l2⟩, k⟩ := h
  refine ⟨_, (pss_one (ps_ret (pe_ix (kix_list (K := K) rfl) (pv 1) (pe_callF (ok_law_draw (K := K) T) (hr.mono (by omega)) (by rfl) T.g_law_draw T.k_law_draw (pa_cons (pv 0) (pa_cons (pe_callB (kcall_len (K := K) rfl) (by rfl) T.z_len b_len (pa_cons (pv 1) pa_nil)) pa_nil))) (fun _ _ => rfl)))), ?_⟩
  refine ⟨_, rfl, _, rfl, _, rfl, s, xs, rfl, .inl (ex_l m.ex hs), ?_⟩
  refine ⟨a, cl, _, H0, rfl, m, ⟨by omega, by omega⟩, fun i H' hi m' => ?_⟩
  obtain ⟨v, hv, e⟩ := atI_in (xs := xs) hi
  exact ⟨s, xs, i, v, rfl, rfl, ex_l m'.ex hs, e, k v hv H' m'⟩
theorem ok_law_pickS (T : Txt w K mg) : FR P w K mg base (2) (a_law_pick K) (sp_law_pickS) := by
  obtain ⟨fd, F⟩ := T.d_law_pick
  refine mkR F sc_law_pick (fun _ _ _ _ _ _ us hl => match us, hl with | [_, _], _ => rfl) (fun vs H Q h => by obtain ⟨a, cl, z, H0, rfl, m, ⟨l1, l2⟩, k⟩ := h; rfl) fun cdv A outer s H vs Q E hr h => ?_
  obtain ⟨a, cl, z, H0, rfl, m, ⟨l1, l2⟩, k⟩ := h
  refine ⟨_, (pss_one (ps_ret (pe_ix ix_str (pv 1) (pe_callF (ok_law_draw (K := K) T) (hr.mono (by omega)) (by rfl) T.g_law_draw T.k_law_draw (pa_cons (pv 0) (pa_cons (pe_callB call_len_str (by rfl) T.z_len b_len (pa_cons (pv 1) pa_nil)) pa_nil))) (fun _ _ => rfl)))), ?_⟩
  refine ⟨_, rfl, _, rfl, _, rfl, z, rfl, Nat.le_trans l2 (by decide), ?_⟩
  refine ⟨a, cl, _, H0, rfl, m, ⟨by show (1 : Int) ≤ (z.cps.size : Int); omega, by show (z.cps.size : Int) ≤ 1000; omega⟩, fun i H' hi m' => ?_⟩
  obtain ⟨c, hc, e⟩ := atI_in (xs := z.cps.toList) (i := i) ⟨hi.1, by rw [Array.length_toList]; exact hi.2⟩
  exact ⟨z, i, c, rfl, rfl, Nat.le_trans l2 (by decide), e, k c hc H' m'⟩
theorem ok_law_words (T : Txt w K mg) : FR P w K mg base 4 (a_law_words K) (sp_law_words K) := by
  obtain ⟨fd, F⟩ := T.d_law_words
  refine mkR F sc_law_words (fun _ _ _ _ _ _ us hl => match us, hl with | [_, _], _ => rfl) (fun vs H Q h => by obtain ⟨a, cl, n, H0, rfl, m, ⟨n1, n2⟩, k⟩ := h; rfl) fun cdv A outer s H vs Q E hr h => ?_
  obtain ⟨a, cl, n, H0, rfl, m, ⟨n1, n2⟩, k⟩ := h
  refine ⟨_, (pss_cons (ps_set (i := 2) sc_law_words.nd rfl (Or.inr rfl) pe_str)
  (pss_cons (ps_set (i := 3) sc_law_words.nd rfl (Or.inl rfl) (pe_lst (pa_cons pe_str (pa_cons pe_str (pa_cons pe_str (pa_cons pe_str (pa_cons pe_str (pa_cons pe_str (pa_cons pe_str (pa_cons pe_str (pa_cons pe_str (pa_cons pe_str (pa_cons pe_str (pa_cons pe_str pa_nil))))))))))))))
  (pss_cons (ps_set (i := 4) sc_law_words.nd rfl (Or.inr rfl) (pe_lst pa_nil))
  (pss_cons (ps_for PassesOwn.never rfl (pi_range1 (by rfl) T.z_range (pa_cons (pv 1) pa_nil)) (pg_name (i := 5) sc_law_words.nd rfl (Or.inl rfl)) (pss_cons (ps_set (i := 6) sc_law_words.nd rfl (Or.inl rfl) (kpe_join (K := K) rfl pe_str (pe_lc (own := [("_law_at", 7)]) rfl sc_law_words.nd (pi_range1 (by rfl) T.z_range (pa_cons (pe_op op_add pe_int (pe_callF (ok_law_draw (K := K) T) (hr.mono (by omega)) (by rfl) T.g_law_draw T.k_law_draw (pa_cons (pv 0) (pa_cons pe_int pa_nil)))) pa_nil)) (blkOk_by (own := [("_law_at", 7)]) (N := N_law_words) (sc := defScope s_law_words) (by decide +kernel)) (fun _ _ _ _ _ => (pg_name (i := 7) sc_law_words.nd rfl (Or.inl rfl))) (fun _ _ _ _ _ => pts_nil) (fun _ _ _ _ _ => (pe_callF (ok_law_pickS (K := K) T) (hr.mono (by omega)) (by rfl) T.g_law_pick T.k_law_pick (pa_cons (pv 0) (pa_cons (pv 2) pa_nil)))))))
  (pss_cons (ps_if (pt_cmpR op_eq (pe_callF (ok_law_draw (K := K) T) (hr.mono (by omega)) (by rfl) T.g_law_draw T.k_law_draw (pa_cons (pv 0) (pa_cons pe_int pa_nil))) pe_int (nomark _)) (pss_one (ps_set (i := 6) sc_law_words.nd rfl (Or.inl rfl) (pe_callF (ok_law_pick (K := K) T) (hr.mono (by omega)) (by rfl) T.g_law_pick T.k_law_pick (pa_cons (pv 0) (pa_cons (pv 3) pa_nil))))) pss_nil)
  (pss_one (ps_expr (kpe_bm (K := K) rfl PySem.F.plainAttrs_list PySem.F.slot_list_append PySem.F.type_list_append mt_append (pv 4) (pa_cons (pe_ix (kix_list (K := K) rfl) (pe_lc (own := [("_law_one", 8)]) rfl sc_law_words.nd (kpi_list (K := K) rfl (pe_lst (pa_cons (pv 6) (pa_cons pe_str (pa_cons pe_str (pa_cons pe_str (pa_cons pe_str pa_nil))))))) (blkOk_by (own := [("_law_one", 8)]) (N := N_law_words) (sc := defScope s_law_words) (by decide +kernel)) (fun _ _ _ _ _ => (pg_name (i := 8) sc_law_words.nd rfl (Or.inl rfl))) (fun _ _ _ _ _ => (pts_one (pt_cmpR (kop_notIn (K := K) rfl) (pv 8) (pv 4) (by rfl)))) (fun _ _ _ _ _ => (pv 8))) pe_int (fun _ _ => rfl)) pa_nil)))))))
  (pss_one (ps_ret (pv 4))))))), ?_⟩
  refine ⟨(show 12 ≤ sizeLine by decide), fun kp hkp => ?_⟩
  have x1 := Ex.new (H := H) (o := .lst (keptW.map V.str)) hkp
  have m1 := m.mono x1
  have hk1 : (upd H kp (.lst (keptW.map V.str))) kp = some (.lst (keptW.map V.str)) := upd_same
  obtain ⟨k1, k2⟩ := m.ne1 hkp
  refine ⟨Nat.zero_le _, fun fl hfl => ?_⟩
  have x2 := Ex.new (H := upd H kp (.lst (keptW.map V.str))) (o := .lst []) hfl
  have hbk := rm2_of hk1 k1 k2
  have mb := m1.big
  have sb := m1.sub
  have hbf : rm2 (upd H kp (.lst (keptW.map V.str))) a cl fl = none := fresh_back mb.ex hfl
  obtain ⟨f1, f2⟩ := m1.ne1 hfl
  have m2 := mb.mono x2
  generalize rm2 (upd H kp (.lst (keptW.map V.str))) a cl = Hb at hbk sb hbf m2
  refine ⟨_, rfl, n, rfl, by omega, by omega, ?_⟩
  refine for_it walk_range (fun i σ' H' => ∃ (NS : List Str) (o5 o6 o7 o8 : Option V), NS.length = i ∧ (∀ y ∈ NS, isNm y) ∧ DlAt Hb H' a cl ∧ H' fl = some (.lst (NS.map V.str)) ∧ σ' = [some (.ref a), some (.int n), some (.str (Str.ofString "abcdefghijklmnopqrstuvwxyz")), some (.ref kp), some (.ref fl), o5, o6, o7, o8])
    ⟨[], _, _, _, _, rfl, fun _ h => (nomatch h), m2, upd_same, rfl⟩ (fun _ _ _ _ _ => trivial) (fun i x σ' H1 H2 hi ⟨NS, o5, o6, o7, o8, q1, q2, q3, q4, q5⟩ yx => ?_) fun σ' H' ⟨NS, o5, o6, o7, o8, q1, q2, q3, q4, q5⟩ => ?_
  · obtain ⟨rfl, rfl⟩ := yx
    subst q5
    have fb := rm2_of q4 f1 f2
    refine ⟨⟨_, rfl⟩, ?_⟩
    refine dl_lc (K := K) (a := a) (cl := cl) (Hb := rm2 H2 a cl) (lo := 1) (hi := 4) (fun v => ∃ c : Nat, v = .str ⟨#[c]⟩ ∧ 97 ≤ c ∧ c ≤ 122) q3.big ⟨by decide, by decide⟩ (fun R kR => ⟨_, rfl, a, cl, 4, rm2 H2 a cl, rfl, q3.big, ⟨by decide, by decide⟩, fun d H3 hd m3 => ⟨_, _, rfl, rfl, kR _ _ (by omega) (by omega) m3⟩⟩)
      (fun i' H4 Hb4 hi' e4 m4 R kR => ⟨rfl, _, rfl, _, rfl, a, cl, _, Hb4, rfl, m4, ⟨by decide +kernel, by decide +kernel⟩, fun c hc H5 m5 => kR _ _ ⟨c, rfl, letters c hc⟩ m5⟩) fun D ys Hb5 H5 e5 hy m5 hl hg => ?_
    obtain ⟨cs, rfl, hcb⟩ := chars_of ys hg
    rw [List.length_map] at hl
    have jl : ((cs.map (fun c => (⟨#[c]⟩ : Str))).map (·.length)).sum + (cs.map (fun c => (⟨#[c]⟩ : Str))).length * (Str.ofString "").length ≤ 16777216 := by
      have s := sum_le (m := 1) (ys := cs.map (fun c => (⟨#[c]⟩ : Str))) fun y hy => by
        obtain ⟨c, _, rfl⟩ := List.mem_map.mp hy
        exact Nat.le_refl 1
      rw [List.length_map] at s
      rw [show (Str.ofString "").length = 0 from by decide +kernel]
      omega
    refine ⟨_, D, cs.map (fun c => (⟨#[c]⟩ : Str)), rfl, rfl, .inl (sq_of (by rw [List.map_map]; exact m5.ex _ _ hy)), jl, ?_⟩
    have nmw := word_nm cs ⟨by omega, by omega⟩ hcb
    generalize Txt.join (Str.ofString "") (cs.map (fun c => (⟨#[c]⟩ : Str))) = wd at nmw
    have fb5 := e5 _ _ fb
    have kb5 := e5 _ _ (q3.sub _ _ hbk)
    have hb5 := q3.sub.trans e5
    have rest : ∀ (w : Str) (H7 : Hp) (o7 : Option V), isNm w → DlAt Hb5 H7 a cl → tDrop (tBM K "list" rAppend (tVar 4) (tCons (tOp (rIxL K)
                (tLc (iList K (tLst (tCons (tVar 6) (tCons (tC (V.str (Str.ofString "a"))) (tCons (tC (V.str (Str.ofString "b"))) (tCons (tC (V.str (Str.ofString "c"))) (tCons (tC (V.str (Str.ofString "d"))) tNil)))))))
                  (gName 8) (tTest (tOp (rIn K true) (tVar 8) (tVar 4))) (tVar 8) [8])
                (tC (V.int 0))) tNil))
        { nx := fun σ' H' => ∃ (NS : List Str) (o5 o6 o7 o8 : Option V), NS.length = i + 1 ∧ (∀ y ∈ NS, isNm y) ∧ DlAt Hb H' a cl ∧ H' fl = some (.lst (NS.map V.str)) ∧ σ' = [some (.ref a), some (.int n), some (.str (Str.ofString "abcdefghijklmnopqrstuvwxyz")), some (.ref kp), some (.ref fl), o5, o6, o7, o8],
          ct := fun σ' H' => ∃ (NS : List Str) (o5 o6 o7 o8 : Option V), NS.length = i + 1 ∧ (∀ y ∈ NS, isNm y) ∧ DlAt Hb H' a cl ∧ H' fl = some (.lst (NS.map V.str)) ∧ σ' = [some (.ref a), some (.int n), some (.str (Str.ofString "abcdefghijklmnopqrstuvwxyz")), some (.ref kp), some (.ref fl), o5, o6, o7, o8],
          bk := tRet (tVar 4) { nx := fun _ H' => Q .non H', rt := Q }, rt := Q } [some (.ref a), some (.int n), some (.str (Str.ofString "abcdefghijklmnopqrstuvwxyz")), some (.ref kp), some (.ref fl), some (.int (0 + (i : Int))), some (.str w), o7, o8] H7 := fun w H7 o7 hw m7 => by
      have hf7 := m7.ex _ _ fb5
      refine ⟨_, rfl, tyL hf7, ?_⟩
      have lst : EvL (tLst (tCons (tVar 6) (tCons (tC (V.str (Str.ofString "a"))) (tCons (tC (V.str (Str.ofString "b"))) (tCons (tC (V.str (Str.ofString "c"))) (tCons (tC (V.str (Str.ofString "d"))) tNil))))))
          [some (.ref a), some (.int n), some (.str (Str.ofString "abcdefghijklmnopqrstuvwxyz")), some (.ref kp), some (.ref fl), some (.int (0 + (i : Int))), some (.str w), o7, o8] H7 (([w, "a", "b", "c", "d"] : List Str).map V.str) := fun H8 e8 Q8 k8 =>
        ⟨_, rfl, (show 5 ≤ sizeLine by decide), fun p hp => k8 p _ hp (Ex.new hp) upd_same⟩
      have c1 := el_lcNew (K := K) (g := gName 8) (tt := tTest (tOp (rIn K true) (tVar 8) (tVar 4))) (te := tVar 8) (vs := [8]) (fun v => if (!inV v (NS.map V.str)) = true then some v else none) lst (show 5 ≤ 100000 by decide) fun x hx => by
        obtain ⟨y, _, rfl⟩ := List.mem_map.mp hx
        intro H8 e8 R kR
        refine ⟨rfl, _, rfl, _, rfl, fl, NS.map V.str, rfl, .inl (sq_of (e8 _ _ hf7)), rfl, flat_strs NS, _, rfl, ?_⟩
        by_cases c : (!inV (V.str y) (NS.map V.str)) = true
        · rw [if_pos c] at kR
          refine if_pos_ c ⟨_, rfl, kR H8 (Ex.refl H8)⟩
        · rw [if_neg c] at kR
          refine if_neg_ c (kR H8 (Ex.refl H8))
      obtain ⟨z, r, hz, hzn⟩ := one_new NS (by omega) hw
      rw [hz] at c1
      dsimp only [tCons, tOp]
      refine c1 H7 (Ex.refl _) _ fun p2 H8 hp2 e8 h8 => ?_
      refine ⟨_, _, _, _, rfl, rfl, sq_of h8, at0, fl, _, _, rfl, rfl, e8 _ _ hf7, Nat.lt_of_le_of_lt (show (NS.map V.str).length ≤ 4 by rw [List.length_map]; omega) (by decide), ?_⟩
      refine ⟨NS ++ [z], _, _, _, _, by rw [List.length_append, q1]; rfl, fun y hy => (List.mem_append.mp hy).elim (q2 y) fun h => by rw [List.mem_singleton.mp h]; exact hzn, ((m7.mono e8).down hb5).other (K := K) hbf f1 f2, ?_, rfl⟩
      rw [upd_same, List.map_append]
      rfl
    refine ⟨_, rfl, a, cl, 3, Hb5, rfl, m5, ⟨by decide, by decide⟩, fun e H6 he m6 => ⟨rfl, _, rfl, ?_⟩⟩
    refine iteI (fun _ => ?_) fun _ => ?_
    · refine ⟨_, rfl, _, rfl, a, cl, kp, keptW.map V.str, Hb5, rfl, m6, sq_of kb5, ⟨by decide, by decide⟩, fun v hv H7 m7 => ?_⟩
      obtain ⟨y, hy, rfl⟩ := List.mem_map.mp hv
      exact rest y H7 _ (kept_nm y hy) m7
    · exact rest wd H6 _ nmw m6
  · subst q5
    exact ⟨_, rfl, k fl NS (rm2 H' a cl) H' (sb.trans q3.sub) q3.big (rm2_of q4 f1 f2) ⟨by omega, by omega⟩ q2⟩
end
end E97
set_option Elab.async false
set_option linter.all false
set_option maxRecDepth 100000
set_option maxHeartbeats 4000000
/-! P16: kinds -/
namespace E97
open PySem PySem.Spec PyProof.Rows L2 Evl NdefX
def kinds0 : List (Str × Str) := [("number", "k"), ("base", ""), ("**", "xk"), ("figure", "kx"), ("first", "kx"), ("last", "kx")]
def kindsX : List Str := ["let", "turned", "least", "greatest", "sum", "many", "root"]
def kindsXY : List Str := ["+", "-", "*", "//", "rest", "joined", "common", "lesser"]
def kindsT : List (Str × Str) := kinds0 ++ (kindsX.map fun x => (x, Str.ofString "x")) ++ (kindsXY.map fun x => (x, Str.ofString "xy"))
def toK (l : List (Str × Str)) : List (Key × V) := l.map fun p => (Sum.inr p.1, V.str p.2)
def sp_law_kinds (K : PySem.W.Frag) : SP0 := fun vs H Q => vs = [] ∧ ∀ d H', H d = none → Ex H H' → H' d = some (.dK (toK kindsT)) → Q (.ref d) H'
theorem kput1 : ∀ i, i < 7 → ∀ x, kindsX[i]? = some x → putK (toK (kindsT.take (6 + i))) (Sum.inr x) (V.str "x") = toK (kindsT.take (6 + (i + 1)))
  | 0, _, _, h => by cases h; kernel_rfl
  | 1, _, _, h => by cases h; kernel_rfl
  | 2, _, _, h => by cases h; kernel_rfl
  | 3, _, _, h => by cases h; kernel_rfl
  | 4, _, _, h => by cases h; kernel_rfl
  | 5, _, _, h => by cases h; kernel_rfl
  | 6, _, _, h => by cases h; kernel_rfl
  | n + 7, h, _, _ => absurd h (by omega)
theorem kput2 : ∀ i, i < 8 → ∀ x, kindsXY[i]? = some x → putK (toK (kindsT.take (13 + i))) (Sum.inr x) (V.str "xy") = toK (kindsT.take (13 + (i + 1)))
  | 0, _, _, h => by cases h; kernel_rfl
  | 1, _, _, h => by cases h; kernel_rfl
  | 2, _, _, h => by cases h; kernel_rfl
  | 3, _, _, h => by cases h; kernel_rfl
  | 4, _, _, h => by cases h; kernel_rfl
  | 5, _, _, h => by cases h; kernel_rfl
  | 6, _, _, h => by cases h; kernel_rfl
  | 7, _, _, h => by cases h; kernel_rfl
  | n + 8, h, _, _ => absurd h (by omega)
theorem klen (n : Nat) : (toK (kindsT.take n)).length ≤ 1000 := by
  unfold toK
  rw [List.length_map, List.length_take, show kindsT.length = 21 from rfl]
  omega
section
variable {P : Program} {w : World} {K : PySem.W.Frag} {mg : Str → Option Value} {base : Heap} {NS : List Str}
theorem ok_law_kinds (T : Txt w K mg) : FR P w K mg base 1 (a_law_kinds K) (sp_law_kinds K) := by
  obtain ⟨fd, F⟩ := T.d_law_kinds
  refine mkR F sc_law_kinds (fun _ _ _ _ _ _ us hl => match us, hl with | [], _ => rfl) (fun vs H Q h => by obtain ⟨rfl, k⟩ := h; rfl) fun cdv A outer s H vs Q E hr h => ?_
  obtain ⟨rfl, k⟩ := h
  refine ⟨_, (pss_cons (ps_set (i := 0) sc_law_kinds.nd rfl (Or.inl rfl) (pe_disp (pps_cons pe_str pe_str (pps_cons pe_str pe_str (pps_cons pe_str pe_str (pps_cons pe_str pe_str (pps_cons pe_str pe_str (pps_cons pe_str pe_str pps_nil)))))) (by rfl) (by rfl) (fun z => by cases z) (by decide)))
  (pss_cons (ps_for PassesOwn.never rfl (kpi_tup (K := K) rfl (pe_tup (pa_cons pe_str (pa_cons pe_str (pa_cons pe_str (pa_cons pe_str (pa_cons pe_str (pa_cons pe_str (pa_cons pe_str pa_nil))))))))) (pg_name (i := 1) sc_law_kinds.nd rfl (Or.inl rfl)) (pss_one (ps_dput (hu_of hr) (pv 0) (pv 1) pe_str rfl)))
  (pss_cons (ps_for PassesOwn.never rfl (kpi_tup (K := K) rfl (pe_tup (pa_cons pe_str (pa_cons pe_str (pa_cons pe_str (pa_cons pe_str (pa_cons pe_str (pa_cons pe_str (pa_cons pe_str (pa_cons pe_str pa_nil)))))))))) (pg_name (i := 1) sc_law_kinds.nd rfl (Or.inl rfl)) (pss_one (ps_dput (hu_of hr) (pv 0) (pv 1) pe_str rfl)))
  (pss_one (ps_ret (pv 0)))))), ?_⟩
  intro d hd
  refine ⟨upd_same, toK kinds0, by kernel_rfl, (show 6 ≤ 15 by decide), ?_⟩
  have x1 := Ex.new (H := H) (o := .dK []) hd
  have e1 : Ex H (upd (upd H d (.dK [])) d (.dK (mergeK [] (toK kinds0)))) := x1.mut hd
  have h1 : (upd (upd H d (.dK [])) d (.dK (mergeK [] (toK kinds0)))) d = some (.dK (toK (kindsT.take (6 + 0)))) := upd_same.trans (by kernel_rfl)
  generalize upd (upd H d (.dK [])) d (.dK (mergeK [] (toK kinds0))) = H1 at e1 h1 ⊢
  refine ⟨(show 7 ≤ sizeLine by decide), fun t1 ht1 => ?_⟩
  have x2 := Ex.new (H := H1) (o := .tup (kindsX.map V.str)) ht1
  have st : SqT K (upd H1 t1 (.tup (kindsX.map V.str))) t1 (kindsX.map V.str) := SqT.of upd_same
  have h2 := x2 _ _ h1
  have e2 := e1.trans x2
  refine ⟨t1, rfl, ⟨_, st⟩, for_tup (fun i σ' H' => ∃ o : Option V, σ' = [some (.ref d), o] ∧ Ex H H' ∧ SqT K H' t1 (kindsX.map V.str) ∧ H' d = some (.dK (toK (kindsT.take (6 + i))))) ⟨none, rfl, e2, st, h2⟩ (fun i σ' H' _ ⟨o, _, _, q, _⟩ => q) (fun i x σ' H' hx ⟨o, hσ, e, q, hd'⟩ => ?_) fun σ' H' ⟨o, hσ, e, q, hd'⟩ => ?_⟩
  · subst hσ
    rw [List.getElem?_map] at hx
    obtain ⟨z, hz, rfl⟩ := Option.map_eq_some_iff.mp hx
    have hi : i < 7 := (List.getElem?_eq_some_iff.mp hz).1
    refine ⟨_, rfl, _, rfl, d, _, rfl, DPut.k (k := Sum.inr z) hd' (small1000 (klen _)), _, rfl, e.mut hd, sqT_wr hd' (fun _ z => nomatch z) (fun _ _ z => nomatch z) q, ?_⟩
    rw [← kput1 i hi z hz]
    exact upd_same
  · subst hσ
    refine ⟨(show 8 ≤ sizeLine by decide), fun t2 ht2 => ?_⟩
    have x3 := Ex.new (H := H') (o := .tup (kindsXY.map V.str)) ht2
    have st2 : SqT K (upd H' t2 (.tup (kindsXY.map V.str))) t2 (kindsXY.map V.str) := SqT.of upd_same
    refine ⟨t2, rfl, ⟨_, st2⟩, for_tup (fun i σ' H' => ∃ o : Option V, σ' = [some (.ref d), o] ∧ Ex H H' ∧ SqT K H' t2 (kindsXY.map V.str) ∧ H' d = some (.dK (toK (kindsT.take (13 + i))))) ⟨_, rfl, e.trans x3, st2, x3 _ _ hd'⟩ (fun i σ' H' _ ⟨o, _, _, q, _⟩ => q) (fun i x σ' H' hx ⟨o, hσ, e, q, hd'⟩ => ?_) fun σ' H' ⟨o, hσ, e, q, hd'⟩ => ?_⟩
    · subst hσ
      rw [List.getElem?_map] at hx
      obtain ⟨z, hz, rfl⟩ := Option.map_eq_some_iff.mp hx
      have hi : i < 8 := (List.getElem?_eq_some_iff.mp hz).1
      refine ⟨_, rfl, _, rfl, d, _, rfl, DPut.k (k := Sum.inr z) hd' (small1000 (klen _)), _, rfl, e.mut hd, sqT_wr hd' (fun _ z => nomatch z) (fun _ _ z => nomatch z) q, ?_⟩
      rw [← kput2 i hi z hz]
      exact upd_same
    · subst hσ
      exact ⟨_, rfl, k d H' hd e hd'⟩
end
end E97
set_option Elab.async false
set_option linter.all false
set_option maxRecDepth 100000
set_option maxHeartbeats 4000000
/-! P17: a row that puts, a test -/
namespace E97
open PySem PySem.Spec PyProof.Rows L2 Evl NdefX
/-- the law's rows as tuples -/
def PutAt (K : PySem.W.Frag) (H : Hp) (v : V) (x : Str) (g : PutG) : Prop := ∃ a r, v = .ref a ∧ SqT K H a [.str "put", .str x, .str g.deed, .ref r] ∧ SqT K H r g.given
def AskAt (K : PySem.W.Frag) (H : Hp) : V → PT → Prop
  | v, .ask word ns => ∃ a r, v = .ref a ∧ SqT K H a [.str "ask", .str word, .ref r] ∧ SqT K H r (ns.map V.str)
  | v, .not t => ∃ a u, v = .ref a ∧ SqT K H a [.str "not", u] ∧ AskAt K H u t
def sp_law_put (K : PySem.W.Frag) : SP0 := fun vs H Q => ∃ (a cl nm : Addr) (NS : List Str) (H0 : Hp), vs = [.ref a, .ref nm, .int 99] ∧ DlAt H0 H a cl ∧ H0 nm = some (.lst (NS.map V.str)) ∧ (1 ≤ NS.length ∧ NS.length ≤ 4) ∧ ∀ v x g H1 H', Ex H0 H1 → DlAt H1 H' a cl → PutAt K H1 v x g → (x ∈ NS ∧ g.wf NS) → Q v H'
def KindOk (NS : List Str) (c : Nat) (v : V) : Prop := (c = 107 ∧ ∃ k : Int, v = .int k ∧ 0 ≤ k ∧ k < 100) ∨ (c ≠ 107 ∧ ∃ y ∈ NS, v = .str y)
theorem kinds_len {d ks : Str} (h : (d, ks) ∈ kindsT) : ks.cps.toList.length ≤ 2 := (show ∀ p ∈ kindsT, p.2.cps.toList.length ≤ 2 by decide +kernel) _ h
theorem kinds_get {d ks : Str} (h : (d, ks) ∈ kindsT) {H : Hp} {a : Addr} (hd : H a = some (.dK (toK kindsT))) : DGet H a (.str d) (some (.str ks)) := by
  have z : (kindsT.all fun p => decide (valV (toK kindsT) (Sum.inr p.1) = some (.str p.2))) = true := by decide +kernel
  have e := of_decide_eq_true (List.all_eq_true.mp z _ h)
  have q := DGet.k (k := Sum.inr d) hd
  rw [e] at q
  exact q
theorem kone_inv {NS : List Str} {c : Nat} {vs : List V} (h : Paired (KindOk NS) [c] vs) : ∃ v, vs = [v] ∧ KindOk NS c v := by
  cases h with
  | cons r t => cases t; exact ⟨_, rfl, r⟩
theorem ktwo_inv {NS : List Str} {c e : Nat} {vs : List V} (h : Paired (KindOk NS) [c, e] vs) : ∃ v u, vs = [v, u] ∧ KindOk NS c v ∧ KindOk NS e u := by
  cases h with
  | cons r t =>
    obtain ⟨u, rfl, hu⟩ := kone_inv t
    exact ⟨_, _, rfl, r, hu⟩
theorem kind_int {NS : List Str} {v : V} (h : KindOk NS 107 v) : ∃ k : Int, v = .int k ∧ 0 ≤ k ∧ k < 100 := h.elim (fun z => z.2) fun z => absurd rfl z.1
theorem kind_str {NS : List Str} {c : Nat} {v : V} (h : KindOk NS c v) (hc : c ≠ 107) : ∃ y ∈ NS, v = .str y := h.elim (fun z => absurd z.1 hc) fun z => z.2
theorem kinds_g {NS : List Str} {d ks : Str} (h : (d, ks) ∈ kindsT) (hd : ¬ d = "**") {vs : List V} (p : Paired (KindOk NS) ks.cps.toList vs) : ∃ g : PutG, g.deed = d ∧ g.given = vs ∧ g.wf NS := by
  rcases List.mem_append.mp h with h | h
  · rcases List.mem_append.mp h with h | h
    · simp only [kinds0, List.mem_cons, List.not_mem_nil, or_false, Prod.mk.injEq] at h
      rcases h with ⟨rfl, rfl⟩ | ⟨rfl, rfl⟩ | ⟨rfl, rfl⟩ | ⟨rfl, rfl⟩ | ⟨rfl, rfl⟩ | ⟨rfl, rfl⟩
      · obtain ⟨v, rfl, hv⟩ := kone_inv (c := 107) p
        obtain ⟨k, rfl, hk⟩ := kind_int hv
        exact ⟨.num k, rfl, rfl, hk⟩
      · cases (show Paired (KindOk NS) [] vs from p)
        exact ⟨.base, rfl, rfl, trivial⟩
      · exact absurd rfl hd
      all_goals
        obtain ⟨v, u, rfl, hv, hu⟩ := ktwo_inv (c := 107) (e := 120) p
        obtain ⟨k, rfl, hk⟩ := kind_int hv
        obtain ⟨y, hy, rfl⟩ := kind_str hu (by decide)
      · exact ⟨.kone "figure" k y, rfl, rfl, by decide +kernel, hk, hy⟩
      · exact ⟨.kone "first" k y, rfl, rfl, by decide +kernel, hk, hy⟩
      · exact ⟨.kone "last" k y, rfl, rfl, by decide +kernel, hk, hy⟩
    · obtain ⟨x, hx, e⟩ := List.mem_map.mp h
      cases e
      obtain ⟨v, rfl, hv⟩ := kone_inv (c := 120) p
      obtain ⟨y, hy, rfl⟩ := kind_str hv (by decide)
      exact ⟨.one d y, rfl, rfl, hx, hy⟩
  · obtain ⟨x, hx, e⟩ := List.mem_map.mp h
    cases e
    obtain ⟨v, u, rfl, hv, hu⟩ := ktwo_inv (c := 120) (e := 121) p
    obtain ⟨y, hy, rfl⟩ := kind_str hv (by decide)
    obtain ⟨z, hz, rfl⟩ := kind_str hu (by decide)
    exact ⟨.two d y z, rfl, rfl, hx, hy, hz⟩
theorem ite_both {c A B : Prop} [Decidable c] (a : A) (b : B) : if c then A else B := by
  split
  · exact a
  · exact b
theorem ints_of : ∀ ys : List V, (∀ v ∈ ys, ∃ k : Int, v = .int k ∧ 0 ≤ k ∧ k < 100) → ∃ ks : List Int, ys = ks.map V.int ∧ ∀ k ∈ ks, 0 ≤ k ∧ k < 100
  | [], _ => ⟨[], rfl, fun _ h => (nomatch h)⟩
  | v :: r, h => by
    obtain ⟨c, rfl, hc⟩ := h v List.mem_cons_self
    obtain ⟨cs, rfl, hcs⟩ := ints_of r fun v hv => h v (List.mem_cons_of_mem _ hv)
    exact ⟨c :: cs, rfl, fun d hd => by
      rcases List.mem_cons.mp hd with rfl | hd
      · exact hc
      · exact hcs d hd⟩
theorem lock_back {H H' : Hp} {d : Addr} {od : Obj} {u : HO} (h : H d = some u) (e : Ex (upd H d (.frz od u)) H') : Ex H (upd H' d u) := fun b o hb => by
  by_cases c : b = d
  · subst c
    rw [upd_same]
    rw [h] at hb
    exact hb
  · rw [upd_ne c]
    exact e b o (by rw [upd_ne c]; exact hb)
def extraW : List Str := ["figures", "figures", "+", "-", "*", "number"]
theorem extra_in : ∀ x ∈ extraW, x = "figures" ∨ ∃ ks, (x, ks) ∈ kindsT := by
  have z : (extraW.all fun x => decide (x = "figures") || kindsT.any fun p => decide (p.1 = x)) = true := by decide +kernel
  intro x hx
  rcases (Bool.or_eq_true _ _).mp (List.all_eq_true.mp z x hx) with h | h
  · exact .inl (of_decide_eq_true h)
  · obtain ⟨p, hp, e⟩ := List.any_eq_true.mp h
    have e := of_decide_eq_true e
    subst e
    exact .inr ⟨p.2, hp⟩
section
variable {P : Program} {w : World} {K : PySem.W.Frag} {mg : Str → Option Value} {base : Heap} {NS : List Str}
theorem ok_law_put (T : Txt w K mg) : FR P w K mg base 3 (a_law_put K) (sp_law_put K) := by
  obtain ⟨fd, F⟩ := T.d_law_put
  refine mkR F sc_law_put (fun _ _ _ _ _ _ us hl => match us, hl with | [_, _, _], _ => rfl) (fun vs H Q h => by obtain ⟨a, cl, nm, NS, H0, rfl, m, hn, ⟨n1, n2⟩, k⟩ := h; rfl) fun cdv A outer s H vs Q E hr h => ?_
  obtain ⟨a, cl, nm, NS, H0, rfl, m, hn, ⟨n1, n2⟩, k⟩ := h
  refine ⟨_, (pss_cons (ps_set (i := 3) sc_law_put.nd rfl (Or.inl rfl) (pe_callF0 (ok_law_kinds (K := K) T) (hr.mono (by omega)) (by rfl) T.g_law_kinds T.k_law_kinds))
  (pss_cons (ps_set (i := 4) sc_law_put.nd rfl (Or.inl rfl) (pe_callF (ok_law_pick (K := K) T) (hr.mono (by omega)) (by rfl) T.g_law_pick T.k_law_pick (pa_cons (pv 0) (pa_cons (pe_op op_cat (pe_callB (kcr_sortedS (K := K) rfl) (by rfl) T.z_sorted b_sorted (pa_cons (pe_lock (pe_lc (own := [("_law_one", 9)]) rfl sc_law_put.nd (pi_keys (pv 3)) (blkOk_by (own := [("_law_one", 9)]) (N := N_law_put) (sc := defScope s_law_put) (by decide +kernel)) (fun _ _ _ _ _ => (pg_name (i := 9) sc_law_put.nd rfl (Or.inl rfl))) (fun _ _ _ _ _ => pts_nil) (fun _ _ _ _ _ => (pe_callTy call_strA (by rfl) T.z_str b_str (pa_cons (pv 9) pa_nil))))) pa_nil)) (pe_lst (pa_cons pe_str (pa_cons pe_str (pa_cons pe_str (pa_cons pe_str (pa_cons pe_str (pa_cons pe_str pa_nil)))))))) pa_nil))))
  (pss_cons (ps_if (pt_cmpR op_eq (pv 4) pe_str (nomark _)) (pss_one (ps_setLc (i := 5) (own := [("_law_k", 8)]) rfl sc_law_put.nd rfl rfl (sw_true rfl rfl rfl (by decide +kernel)) (pi_range1 (by rfl) T.z_range (pa_cons (pe_op op_add pe_int (pe_callF (ok_law_draw (K := K) T) (hr.mono (by omega)) (by rfl) T.g_law_draw T.k_law_draw (pa_cons (pv 0) (pa_cons pe_int pa_nil)))) pa_nil)) (blkOk_by (own := [("_law_k", 8)]) (N := N_law_put) (sc := defScope s_law_put) (by decide +kernel)) (fun _ _ _ _ _ => (pg_name (i := 8) sc_law_put.nd rfl (Or.inl rfl))) (fun _ _ _ _ _ => pts_nil) (fun _ _ _ _ _ => (pe_callF (ok_law_draw (K := K) T) (hr.mono (by omega)) (by rfl) T.g_law_draw T.k_law_draw (pa_cons (pv 0) (pa_cons (pe_ix (kix_list (K := K) rfl) (pe_lst (pa_cons pe_int (pa_cons pe_int (pa_cons pe_int pa_nil)))) (pe_callF (ok_law_draw (K := K) T) (hr.mono (by omega)) (by rfl) T.g_law_draw T.k_law_draw (pa_cons (pv 0) (pa_cons pe_int pa_nil))) (fun _ _ => rfl)) pa_nil)))))) (pss_one (ps_if (pt_cmpR op_eq (pv 4) pe_str (nomark _)) (pss_one (ps_set (i := 5) sc_law_put.nd rfl (Or.inl rfl) (pe_lst (pa_cons (pe_callF (ok_law_pick (K := K) T) (hr.mono (by omega)) (by rfl) T.g_law_pick T.k_law_pick (pa_cons (pv 0) (pa_cons (pv 1) pa_nil))) (pa_cons (pe_callF (ok_law_draw (K := K) T) (hr.mono (by omega)) (by rfl) T.g_law_draw T.k_law_draw (pa_cons (pv 0) (pa_cons pe_int pa_nil))) pa_nil))))) (pss_cons (ps_set (i := 5) sc_law_put.nd rfl (Or.inl rfl) (pe_lst pa_nil))
  (pss_one (ps_for PassesOwn.never rfl (pi_str (pe_dget (hu_of hr) (pv 3) (pv 4) (fun _ _ => rfl))) (pg_name (i := 6) sc_law_put.nd rfl (Or.inl rfl)) (pss_cons (ps_set (i := 7) sc_law_put.nd rfl (Or.inl rfl) (pe_callF (ok_law_draw (K := K) T) (hr.mono (by omega)) (by rfl) T.g_law_draw T.k_law_draw (pa_cons (pv 0) (pa_cons (pe_ifExp (pt_cmpR (kop_in (K := K) rfl) (pv 4) (pe_tup (pa_cons pe_str (pa_cons pe_str (pa_cons pe_str pa_nil)))) (by rfl)) pe_int (pe_op op_add (pv 2) pe_int)) pa_nil))))
  (pss_one (ps_expr (kpe_bm (K := K) rfl PySem.F.plainAttrs_list PySem.F.slot_list_append PySem.F.type_list_append mt_append (pv 5) (pa_cons (pe_ifExp (pt_cmpR op_eq (pv 6) pe_str (nomark _)) (pv 7) (pe_callF (ok_law_pick (K := K) T) (hr.mono (by omega)) (by rfl) T.g_law_pick T.k_law_pick (pa_cons (pv 0) (pa_cons (pv 1) pa_nil)))) pa_nil)))))))))))
  (pss_one (ps_ret (pe_tup (pa_cons pe_str (pa_cons (pe_callF (ok_law_pick (K := K) T) (hr.mono (by omega)) (by rfl) T.g_law_pick T.k_law_pick (pa_cons (pv 0) (pa_cons (pv 1) pa_nil))) (pa_cons (pv 4) (pa_cons (pe_callTy (kcall_tuple (K := K) rfl) (by rfl) T.z_tuple b_tuple (pa_cons (pv 5) pa_nil)) pa_nil)))))))))), ?_⟩
  refine ⟨rfl, fun d H1 hd e1 h1 => ?_⟩
  have m1 := m.mono e1
  have tail : ∀ (deed : Str) (g : PutG) (r : Addr) (o6 o7 o8 o9 : Option V) (Hb3 H3 : Hp), Ex H0 Hb3 → DlAt Hb3 H3 a cl → Hb3 r = some (.lst g.given) → g.deed = deed → g.wf NS →
      tRet (tTup (tCons (tC (V.str (Str.ofString "put"))) (tCons (tCallF (sp_law_pick K) (tCons (tVar 0) (tCons (tVar 1) tNil))) (tCons (tVar 4) (tCons (tCB (rTupOf K) (tCons (tVar 5) tNil)) tNil)))))
        { nx := fun _ H' => Q .non H', rt := Q } [some (.ref a), some (.ref nm), some (.int 99), some (.ref d), some (.str deed), some (.ref r), o6, o7, o8, o9] H3 := fun deed g r o6 o7 o8 o9 Hb3 H3 e3 m3 hr hg wf => by
    subst hg
    refine ⟨_, rfl, _, rfl, a, cl, nm, NS.map V.str, Hb3, rfl, m3, sq_of (e3 _ _ hn), ⟨by rw [List.length_map]; exact n1, by rw [List.length_map]; omega⟩, fun v hv H4 m4 => ?_⟩
    obtain ⟨x, hx, rfl⟩ := List.mem_map.mp hv
    refine ⟨_, rfl, _, rfl, r, g.given, rfl, .inl ⟨sq_of (m4.ex _ _ hr), fun t ht => ?_⟩⟩
    have x5 := Ex.new (H := H4) (o := .tup g.given) ht
    refine ⟨(show 4 ≤ sizeLine by decide), fun p hp => ?_⟩
    have x6 := Ex.new (o := .tup [V.str "put", .str x, .str g.deed, .ref t]) hp
    have m6 := (m4.mono x5).mono x6
    exact k _ x g (rm2 _ a cl) _ (e3.trans m6.sub) m6.big ⟨p, t, rfl, m6.keepT (SqT.of upd_same), m6.keepT (ex_t x6 (SqT.of upd_same))⟩ ⟨hx, wf⟩
  have main : ∀ (deed : Str) (Hb H2 : Hp), Ex H0 Hb → DlAt Hb H2 a cl → Hb d = some (.dK (toK kindsT)) → (deed = "figures" ∨ ∃ ks, (deed, ks) ∈ kindsT) →
      tSeq
        (tIfS (tTest (tOp rEq (tVar 4) (tC (V.str (Str.ofString "figures")))))
          (tAsg
            (tLc
              (iRng1
                (tCons
                  (tOp (rI0 fun i j => V.int (i + j)) (tC (V.int 1))
                    (tCallF sp_law_draw (tCons (tVar 0) (tCons (tC (V.int 6)) tNil))))
                  tNil))
              (gName 8) tYes
              (tCallF sp_law_draw
                (tCons (tVar 0)
                  (tCons
                    (tOp (rIxL K) (tLst (tCons (tC (V.int 3)) (tCons (tC (V.int 10)) (tCons (tC (V.int 36)) tNil))))
                      (tCallF sp_law_draw (tCons (tVar 0) (tCons (tC (V.int 3)) tNil))))
                    tNil)))
              [8])
            (gName 5))
          (tIfS (tTest (tOp rEq (tVar 4) (tC (V.str (Str.ofString "**")))))
            (tAsg
              (tLst
                (tCons (tCallF (sp_law_pick K) (tCons (tVar 0) (tCons (tVar 1) tNil)))
                  (tCons (tCallF sp_law_draw (tCons (tVar 0) (tCons (tC (V.int 4)) tNil))) tNil)))
              (gName 5))
            (tSeq (tAsg (tLst tNil) (gName 5))
              (tFor (iStr (tDGet (tVar 3) (tVar 4))) (gName 6)
                (tSeq
                  (tAsg
                    (tCallF sp_law_draw
                      (tCons (tVar 0)
                        (tCons
                          (tIf
                            (tTest
                              (tOp (rIn K false) (tVar 4)
                                (tTup
                                  (tCons (tC (V.str (Str.ofString "figure")))
                                    (tCons (tC (V.str (Str.ofString "first")))
                                      (tCons (tC (V.str (Str.ofString "last"))) tNil))))))
                            (tC (V.int 9)) (tOp (rI0 fun i j => V.int (i + j)) (tVar 2) (tC (V.int 1))))
                          tNil)))
                    (gName 7))
                  (tDrop
                    (tBM K "list" rAppend (tVar 5)
                      (tCons
                        (tIf (tTest (tOp rEq (tVar 6) (tC (V.str (Str.ofString "k"))))) (tVar 7)
                          (tCallF (sp_law_pick K) (tCons (tVar 0) (tCons (tVar 1) tNil))))
                        tNil))))))))
        (tRet (tTup (tCons (tC (V.str (Str.ofString "put"))) (tCons (tCallF (sp_law_pick K) (tCons (tVar 0) (tCons (tVar 1) tNil))) (tCons (tVar 4) (tCons (tCB (rTupOf K) (tCons (tVar 5) tNil)) tNil))))))
        { nx := fun _ H' => Q .non H', rt := Q } [some (.ref a), some (.ref nm), some (.int 99), some (.ref d), some (.str deed), none, none, none, none, none] H2 := fun deed Hb H2 eb m2 hdb hdd => by
    refine ⟨_, rfl, rfl, _, rfl, ?_⟩
    refine iteS (fun c => ?_) fun c => ?_
    · subst c
      refine dl_lc (K := K) (a := a) (cl := cl) (Hb := Hb) (lo := 1) (hi := 6) (fun v => ∃ k : Int, v = .int k ∧ 0 ≤ k ∧ k < 100) m2 ⟨by decide, by decide⟩ (fun R kR => ⟨_, rfl, a, cl, 6, Hb, rfl, m2, ⟨by decide, by decide⟩, fun i H3 hi m3 => ⟨_, _, rfl, rfl, kR _ _ (by omega) (by omega) m3⟩⟩)
        (fun i' H4 Hb4 hi' e4 m4 R kR => ⟨rfl, _, rfl, (show 3 ≤ sizeLine by decide), fun q hq => ?_⟩) fun D ys Hb5 H5 e5 hy m5 hl hg => ?_
      · have x5 := Ex.new (H := H4) (o := .lst ([3, 10, 36].map V.int)) hq
        have m5 := m4.mono x5
        obtain ⟨q1, q2⟩ := m4.ne1 hq
        refine ⟨_, rfl, a, cl, 3, rm2 (upd H4 q (.lst ([3, 10, 36].map V.int))) a cl, rfl, m5.big, ⟨by decide, by decide⟩, fun i H6 hi m6 => ?_⟩
        obtain ⟨v, hv, ev⟩ := atI_in (xs := [3, 10, 36].map V.int) (i := i) hi
        obtain ⟨n, hn', rfl⟩ := List.mem_map.mp hv
        have hn6 : 1 ≤ n ∧ n ≤ 36 := (show ∀ n ∈ ([3, 10, 36] : List Int), 1 ≤ n ∧ n ≤ 36 by decide) n hn'
        refine ⟨q, _, i, _, rfl, rfl, sq_of (m6.ex _ _ (rm2_of upd_same q1 q2)), ev, ?_⟩
        exact ⟨a, cl, n, Hb4, rfl, m6.down m5.sub, ⟨hn6.1, by omega⟩, fun j H7 hj m7 => kR _ _ ⟨j, rfl, hj.1, by omega⟩ m7⟩
      · obtain ⟨ks, rfl, hks⟩ := ints_of ys hg
        rw [List.length_map] at hl
        exact tail _ (.figs ks) D _ _ _ _ Hb5 H5 (eb.trans e5) m5 hy rfl ⟨⟨by omega, by omega⟩, hks⟩
    · refine ⟨_, rfl, rfl, _, rfl, ?_⟩
      refine iteS (fun c2 => ?_) fun c2 => ?_
      · subst c2
        refine ⟨_, rfl, _, rfl, a, cl, nm, NS.map V.str, Hb, rfl, m2, sq_of (eb _ _ hn), ⟨by rw [List.length_map]; exact n1, by rw [List.length_map]; omega⟩, fun v hv H4 m4 => ?_⟩
        obtain ⟨x, hx, rfl⟩ := List.mem_map.mp hv
        refine ⟨_, rfl, a, cl, 4, Hb, rfl, m4, ⟨by decide, by decide⟩, fun i H5 hi m5 => ?_⟩
        refine ⟨(show 2 ≤ sizeLine by decide), fun r hr => ?_⟩
        obtain ⟨r1, r2⟩ := m5.ne1 hr
        have m6 := m5.mono (Ex.new (o := .lst [V.str x, V.int i]) hr)
        exact tail _ (.pow x i) r _ _ _ _ _ _ (eb.trans m6.sub) m6.big (rm2_of upd_same r1 r2) rfl ⟨hx, by omega, by omega⟩
      · obtain ⟨ks, hks⟩ := hdd.resolve_left c
        refine ⟨Nat.zero_le _, fun r hr => ?_⟩
        obtain ⟨r1, r2⟩ := m2.ne1 hr
        have hrb : Hb r = none := fresh_back m2.ex hr
        have m3 := m2.mono (Ex.new (o := .lst []) hr)
        have hd3 := m3.ex _ _ hdb
        refine ⟨_, rfl, _, rfl, d, .str ks, rfl, kinds_get hks hd3, ks, rfl, ?_⟩
        refine for_it walk_str (fun i σ' H' => ∃ (vs : List V) (o6 o7 : Option V), Paired (KindOk NS) (ks.cps.toList.take i) vs ∧ DlAt Hb H' a cl ∧ H' r = some (.lst vs) ∧ σ' = [some (.ref a), some (.ref nm), some (.int 99), some (.ref d), some (.str deed), some (.ref r), o6, o7, none, none])
          ⟨[], _, _, .nil, m3, upd_same, rfl⟩ (fun _ _ _ _ _ => trivial) (fun i x σ' H4 H5 hi ⟨vs0, o6, o7, q1, q3', q3, q4⟩ yx => ?_) fun σ' H' ⟨vs, o6, o7, q1, q2, q3, q4⟩ => ?_
        · obtain ⟨rfl, ch, hc, rfl⟩ := yx
          subst q4
          have q3b := rm2_of q3 r1 r2
          have vl : vs0.length < sizeLine := by
            have l := paired_len q1
            rw [List.length_take] at l
            exact Nat.lt_of_le_of_lt (show _ ≤ 2 by have := kinds_len hks; omega) (by decide)
          have hch : (ks.cps.toList)[i]? = some ch := by rw [Array.getElem?_toList]; exact hc
          have step : ∀ (v : V) (o6 o7 : Option V) (H7 : Hp), KindOk NS ch v → DlAt (rm2 H5 a cl) H7 a cl → ∃ (vs : List V) (o6' o7' : Option V), Paired (KindOk NS) (ks.cps.toList.take (i + 1)) vs ∧ DlAt Hb (upd H7 r (.lst (vs0 ++ [v]))) a cl ∧ (upd H7 r (.lst (vs0 ++ [v]))) r = some (.lst vs) ∧ ([some (.ref a), some (.ref nm), some (.int 99), some (.ref d), some (.str deed), some (.ref r), o6, o7, none, none] : L2.St) = [some (.ref a), some (.ref nm), some (.int 99), some (.ref d), some (.str deed), some (.ref r), o6', o7', none, none] := fun v o6 o7 H7 hv m7 =>
            ⟨vs0 ++ [v], o6, o7, by rw [List.take_add_one, hch]; exact paired_append q1 (.cons hv .nil), (m7.down q3'.sub).other (K := K) hrb r1 r2, upd_same, rfl⟩
          have app : ∀ (D : Ends) (j : Int) (H7 : Hp), (∀ σ' H', (∃ (vs : List V) (o6 o7 : Option V), Paired (KindOk NS) (ks.cps.toList.take (i + 1)) vs ∧ DlAt Hb H' a cl ∧ H' r = some (.lst vs) ∧ σ' = [some (.ref a), some (.ref nm), some (.int 99), some (.ref d), some (.str deed), some (.ref r), o6, o7, none, none]) → D.nx σ' H') → (0 ≤ j ∧ j < 100) → DlAt (rm2 H5 a cl) H7 a cl →
              tDrop (tBM K "list" rAppend (tVar 5) (tCons (tIf (tTest (tOp rEq (tVar 6) (tC (V.str (Str.ofString "k"))))) (tVar 7) (tCallF (sp_law_pick K) (tCons (tVar 0) (tCons (tVar 1) tNil)))) tNil)) D
                [some (.ref a), some (.ref nm), some (.int 99), some (.ref d), some (.str deed), some (.ref r), some (.str ⟨#[ch]⟩), some (.int j), none, none] H7 := fun D j H7 kD hj m7 => by
            have h7 := m7.ex _ _ q3b
            refine ⟨_, rfl, tyL h7, ?_⟩
            refine ⟨_, rfl, rfl, _, rfl, ?_⟩
            refine iteS (fun c3 => ?_) fun c3 => ?_
            · have e3 : ch = 107 := by
                have e2 : (#[ch] : Array Nat) = #[107] := congrArg (fun z : Str => z.cps) c3
                simpa using e2
              refine ⟨_, rfl, r, _, _, rfl, rfl, h7, vl, kD _ _ ?_⟩
              obtain ⟨vs, o6', o7', z⟩ := step (.int j) (some (.str ⟨#[ch]⟩)) (some (.int j)) H7 (.inl ⟨e3, j, rfl, hj⟩) m7
              exact ⟨vs, o6', o7', z⟩
            · have e3 : ch ≠ 107 := fun e => c3 (by rw [e]; rfl)
              refine ⟨_, rfl, _, rfl, a, cl, nm, NS.map V.str, rm2 H5 a cl, rfl, m7, sq_of (q3'.sub _ _ (eb _ _ hn)), ⟨by rw [List.length_map]; exact n1, by rw [List.length_map]; omega⟩, fun v hv H8 m8 => ?_⟩
              obtain ⟨x, hx, rfl⟩ := List.mem_map.mp hv
              refine ⟨r, _, _, rfl, rfl, m8.ex _ _ q3b, vl, kD _ _ ?_⟩
              obtain ⟨vs, o6', o7', z⟩ := step (.str x) (some (.str ⟨#[ch]⟩)) (some (.int j)) H8 (.inr ⟨e3, x, hx, rfl⟩) m8
              exact ⟨vs, o6', o7', z⟩
          refine ⟨_, rfl, _, rfl, (show 3 ≤ sizeLine by decide), fun q hq => ?_⟩
          have x6 := Ex.new (H := H5) (o := .tup [V.str "figure", .str "first", .str "last"]) hq
          refine ⟨q, _, rfl, .inr (SqT.of upd_same), rfl, rfl, _, rfl, ?_⟩
          refine ite_both ?_ ?_
          · exact ⟨a, cl, 9, rm2 H5 a cl, rfl, q3'.big.mono x6, ⟨by decide, by decide⟩, fun j H7 hj m7 => app _ j H7 (fun _ _ h => h) ⟨hj.1, by omega⟩ m7⟩
          · exact ⟨_, rfl, _, _, rfl, rfl, a, cl, 100, rm2 H5 a cl, rfl, q3'.big.mono x6, ⟨by decide, by decide⟩, fun j H7 hj m7 => app _ j H7 (fun _ _ h => h) hj m7⟩
        · subst q4
          have hz : ks.cps.size = ks.cps.toList.length := Array.length_toList.symm
          rw [hz, List.take_length] at q1
          obtain ⟨g, hg, rfl, wf⟩ := kinds_g hks c2 q1
          exact tail deed g r _ _ _ _ (rm2 H' a cl) H' (eb.trans q2.sub) q2.big (rm2_of q3 r1 r2) hg wf
  refine ⟨_, rfl, d, .dK (toK kindsT), h1, trivial, fun od => ?_⟩
  refine ⟨_, rfl, d, od, rfl, .inl ⟨toK kindsT, upd_same, fun D hD => ?_⟩⟩
  refine lc_it walk_keys (fun i H' => Ex (upd H1 d (.frz od (.dK (toK kindsT)))) H' ∧ H' D = some (.lst ((kindsT.take i).map fun p => V.str p.1))) ⟨Ex.new hD, upd_same⟩ (fun i H' _ p => p.1 _ _ upd_same) (fun i x H2 H3 hi p y => ?_) fun H2 p => ?_
  · obtain ⟨rfl, kk, v, hk, rfl⟩ := y
    unfold toK at hk
    rw [List.getElem?_map] at hk
    obtain ⟨q, hq, e⟩ := Option.map_eq_some_iff.mp hk
    cases e
    refine ⟨rfl, _, rfl, .inl ⟨q.1, rfl, _, p.2, Nat.lt_of_le_of_lt (show _ ≤ 21 by rw [List.length_map, List.length_take, show kindsT.length = 21 from rfl]; omega) (by decide), p.1.mut hD, ?_⟩⟩
    rw [List.take_add_one, hq, List.map_append]
    exact upd_same
  · obtain ⟨e2, h2⟩ := p
    refine ⟨e2 _ _ upd_same, ?_⟩
    have nD : D ≠ d := (ne_of_none upd_same hD).symm
    have e12 := lock_back h1 e2
    have h2' : (upd H2 d (.dK (toK kindsT))) D = some (.lst ((kindsT.map (·.1)).map V.str)) := by
      rw [upd_ne nD, h2, List.map_map]
      rfl
    generalize upd H2 d (.dK (toK kindsT)) = H3 at e12 h2' ⊢
    refine ⟨D, kindsT.map (·.1), rfl, sq_of h2', by decide, fun ys sp hperm _ hsp => ?_⟩
    have x4 := Ex.new (H := H3) (o := .lst (ys.map V.str)) hsp
    refine ⟨(show 6 ≤ sizeLine by decide), fun q hq => ?_⟩
    have x5 := Ex.new (o := .lst (extraW.map V.str)) hq
    have yl : ys.length = 21 := hperm.length_eq
    refine ⟨sp, q, ys.map V.str, extraW.map V.str, rfl, rfl, x5 _ _ upd_same, upd_same, Nat.le_trans (show _ ≤ 27 by rw [List.length_map, yl]; exact Nat.le_refl _) (by decide), fun r hr => ?_⟩
    have x6 := Ex.new (o := .lst (ys.map V.str ++ extraW.map V.str)) hr
    have e16 := e12.trans (x4.trans (x5.trans x6))
    have m6 := m1.mono e16
    have hd6 := e16 _ _ h1
    obtain ⟨dn1, dn2⟩ := m.ne1 hd
    obtain ⟨rn1, rn2⟩ := (m1.mono (e12.trans (x4.trans x5))).ne1 hr
    have hdb := rm2_of hd6 dn1 dn2
    have hr6 : (upd (upd (upd H3 sp (.lst (ys.map V.str))) q (.lst (extraW.map V.str))) r (.lst (ys.map V.str ++ extraW.map V.str))) r = some (.lst ((ys ++ extraW).map V.str)) := by rw [upd_same, List.map_append]
    have hrb := rm2_of hr6 rn1 rn2
    refine ⟨a, cl, r, (ys ++ extraW).map V.str, _, rfl, m6.big, sq_of hrb, by rw [List.length_map, List.length_append, yl]; exact ⟨by decide, by decide⟩, fun v hv H7 m7 => ?_⟩
    obtain ⟨deed, hdd, rfl⟩ := List.mem_map.mp hv
    refine main deed _ H7 m6.sub m7 hdb ?_
    rcases List.mem_append.mp hdd with h | h
    · obtain ⟨p, hp, rfl⟩ := List.mem_map.mp (hperm.mem_iff.mp h)
      exact .inr ⟨p.2, hp⟩
    · exact extra_in deed h
end
end E97
set_option Elab.async false
set_option linter.all false
set_option maxRecDepth 100000
set_option maxHeartbeats 4000000
/-! P18: a test -/
namespace E97
open PySem PySem.Spec PyProof.Rows L2 Evl NdefX
def sp_law_ask (K : PySem.W.Frag) (n : Nat) : SP0 := fun vs H Q => ∃ (a cl nm : Addr) (e : Nat) (NS : List Str) (H0 : Hp), n = e + 1 ∧ vs = [.ref a, .ref nm, .int e] ∧ DlAt H0 H a cl ∧ H0 nm = some (.lst (NS.map V.str)) ∧ (1 ≤ NS.length ∧ NS.length ≤ 4) ∧ ∀ v t H1 H', Ex H0 H1 → DlAt H1 H' a cl → AskAt K H1 v t → t.wf NS e → Q v H'
theorem AskAt.mono {K : PySem.W.Frag} {H H' : Hp} (e : Ex H H') : ∀ {t : PT} {v : V}, AskAt K H v t → AskAt K H' v t
  | .ask _ _, _, ⟨a, r, h1, h2, h3⟩ => ⟨a, r, h1, ex_t e h2, ex_t e h3⟩
  | .not _, _, ⟨a, u, h1, h2, h3⟩ => ⟨a, u, h1, ex_t e h2, AskAt.mono e h3⟩
def askWs : List Str := ["same", "less", "divides", "mirrored", "unlike"]
theorem ask_num : ∀ w ∈ askWs, (1 : Int) + (if (if false = true then !inV (V.str w) [V.str "same", V.str "less", V.str "divides"] else inV (V.str w) [V.str "same", V.str "less", V.str "divides"]) = true then 1 else 0) = (askW w : Int) := by decide +kernel
theorem strs_in {NS : List Str} : ∀ ys : List V, (∀ v ∈ ys, ∃ y ∈ NS, v = .str y) → ∃ ns : List Str, ys = ns.map V.str ∧ ∀ y ∈ ns, y ∈ NS
  | [], _ => ⟨[], rfl, fun _ h => (nomatch h)⟩
  | v :: r, h => by
    obtain ⟨y, hy, rfl⟩ := h v List.mem_cons_self
    obtain ⟨ns, rfl, hns⟩ := strs_in r fun v hv => h v (List.mem_cons_of_mem _ hv)
    exact ⟨y :: ns, rfl, fun z hz => by
      rcases List.mem_cons.mp hz with rfl | hz
      · exact hy
      · exact hns z hz⟩
section
variable {P : Program} {w : World} {K : PySem.W.Frag} {mg : Str → Option Value} {base : Heap} {NS : List Str}
theorem ask_step (T : Txt w K mg) (n : Nat) (GA : FR P w K mg base (n + 3) (a_law_ask K) (sp_law_ask K n)) : FR P w K mg base (n + 4) (a_law_ask K) (sp_law_ask K (n + 1)) := by
  obtain ⟨fd, F⟩ := T.d_law_ask
  refine mkR F sc_law_ask (fun _ _ _ _ _ _ us hl => match us, hl with | [_, _, _], _ => rfl) (fun vs H Q h => by obtain ⟨a, cl, nm, e, NS, H0, hne, rfl, m, hn, ⟨n1, n2⟩, k⟩ := h; rfl) fun cdv A outer s H vs Q E hr h => ?_
  obtain ⟨a, cl, nm, e, NS, H0, hne, rfl, m, hn, ⟨n1, n2⟩, k⟩ := h
  refine ⟨_, (pss_cons (ps_if (PW.pt (pw_and (pt_cmpR op_gt (pv 2) pe_int (nomark _)) (pw_and1 (pt_cmpR op_eq (pe_callF (ok_law_draw (K := K) T) (hr.mono (by omega)) (by rfl) T.g_law_draw T.k_law_draw (pa_cons (pv 0) (pa_cons pe_int pa_nil))) pe_int (nomark _))))) (pss_one (ps_ret (pe_tup (pa_cons pe_str (pa_cons (pe_callF (GA) (hr.mono (by omega)) (by rfl) T.g_law_ask T.k_law_ask (pa_cons (pv 0) (pa_cons (pv 1) (pa_cons (pe_op op_sub (pv 2) pe_int) pa_nil)))) pa_nil))))) pss_nil)
  (pss_cons (ps_set (i := 3) sc_law_ask.nd rfl (Or.inl rfl) (pe_callF (ok_law_pick (K := K) T) (hr.mono (by omega)) (by rfl) T.g_law_pick T.k_law_pick (pa_cons (pv 0) (pa_cons (pe_lst (pa_cons pe_str (pa_cons pe_str (pa_cons pe_str (pa_cons pe_str (pa_cons pe_str pa_nil)))))) pa_nil))))
  (pss_cons (ps_setLc (i := 4) (own := [("_law_k", 5)]) rfl sc_law_ask.nd rfl rfl (sw_true rfl rfl rfl (by decide +kernel)) (pi_range1 (by rfl) T.z_range (pa_cons (pe_op op_add pe_int (pe_callTy call_int1 (by rfl) T.z_int b_int (pa_cons (pe_cmpR (kop_in (K := K) rfl) (pv 3) (pe_tup (pa_cons pe_str (pa_cons pe_str (pa_cons pe_str pa_nil)))) (by rfl)) pa_nil))) pa_nil)) (blkOk_by (own := [("_law_k", 5)]) (N := N_law_ask) (sc := defScope s_law_ask) (by decide +kernel)) (fun _ _ _ _ _ => (pg_name (i := 5) sc_law_ask.nd rfl (Or.inl rfl))) (fun _ _ _ _ _ => pts_nil) (fun _ _ _ _ _ => (pe_callF (ok_law_pick (K := K) T) (hr.mono (by omega)) (by rfl) T.g_law_pick T.k_law_pick (pa_cons (pv 0) (pa_cons (pv 1) pa_nil)))))
  (pss_one (ps_ret (pe_tup (pa_cons pe_str (pa_cons (pv 3) (pa_cons (pe_callTy (kcall_tuple (K := K) rfl) (by rfl) T.z_tuple b_tuple (pa_cons (pv 4) pa_nil)) pa_nil))))))))), ?_⟩
  obtain rfl : n = e := by omega
  have ask : ∀ H3, DlAt H0 H3 a cl → tSeq
      (tAsg (tCallF (sp_law_pick K) (tCons (tVar 0) (tCons (tLst (tCons (tC (V.str (Str.ofString "same"))) (tCons (tC (V.str (Str.ofString "less"))) (tCons (tC (V.str (Str.ofString "divides"))) (tCons (tC (V.str (Str.ofString "mirrored"))) (tCons (tC (V.str (Str.ofString "unlike"))) tNil)))))) tNil))) (gName 3))
      (tSeq
        (tAsg (tLc (iRng1 (tCons (tOp (rI0 fun i j => V.int (i + j)) (tC (V.int 1))
                  (tCB (fun xs H Q => (∃ i, xs = [V.int i] ∧ Q (V.int i) H) ∨ ∃ k, xs = [V.bl k] ∧ Q (V.int (if k = true then 1 else 0)) H)
                    (tCons (tOp (rIn K false) (tVar 3) (tTup (tCons (tC (V.str (Str.ofString "same"))) (tCons (tC (V.str (Str.ofString "less"))) (tCons (tC (V.str (Str.ofString "divides"))) tNil))))) tNil))) tNil))
            (gName 5) tYes (tCallF (sp_law_pick K) (tCons (tVar 0) (tCons (tVar 1) tNil))) [5]) (gName 4))
        (tRet (tTup (tCons (tC (V.str (Str.ofString "ask"))) (tCons (tVar 3) (tCons (tCB (rTupOf K) (tCons (tVar 4) tNil)) tNil))))))
      { nx := fun _ H' => Q .non H', rt := Q } [some (.ref a), some (.ref nm), some (.int n), none, none, none] H3 := fun H3 m3 => by
    refine ⟨_, rfl, (show 5 ≤ sizeLine by decide), fun q hq => ?_⟩
    obtain ⟨q1, q2⟩ := m3.ne1 hq
    have m4 := m3.mono (Ex.new (o := .lst (askWs.map V.str)) hq)
    have hq4 : (upd H3 q (.lst (askWs.map V.str))) q = some (.lst (askWs.map V.str)) := upd_same
    refine ⟨a, cl, q, askWs.map V.str, _, rfl, m4.big, sq_of (rm2_of hq4 q1 q2), ⟨by decide, by decide⟩, fun v hv H5 m5 => ?_⟩
    obtain ⟨word, hw, rfl⟩ := List.mem_map.mp hv
    have e5 := m4.sub
    generalize rm2 (upd H3 q (.lst (askWs.map V.str))) a cl = Hb at m5 e5
    have aw : (1 : Int) ≤ askW word ∧ (askW word : Int) ≤ 2 := by unfold askW; split <;> decide
    dsimp only [gName, List.set, tSeq, tAsg]
    refine dl_lc (K := K) (a := a) (cl := cl) (Hb := Hb) (lo := askW word) (hi := askW word) (fun v => ∃ y ∈ NS, v = .str y) m5 ⟨by omega, by omega⟩ (fun R kR => ⟨_, rfl, (show 3 ≤ sizeLine by decide), fun p hp => ⟨p, _, rfl, .inr (SqT.of upd_same), rfl, rfl, .inr ⟨_, rfl, _, _, rfl, rfl, ?_⟩⟩⟩)
      (fun i' H6 Hb6 hi' e6 m6 R kR => ⟨rfl, _, rfl, _, rfl, a, cl, nm, NS.map V.str, Hb6, rfl, m6, sq_of (e6 _ _ (e5 _ _ hn)), ⟨by rw [List.length_map]; exact n1, by rw [List.length_map]; omega⟩, fun v hv H7 m7 => ?_⟩) fun D ys Hb7 H7 e7 hy m7 hl hg => ?_
    · dsimp only
      rw [ask_num word hw]
      exact kR _ _ (Int.le_refl _) (Int.le_refl _) (m5.mono (Ex.new hp))
    · obtain ⟨y, hy, rfl⟩ := List.mem_map.mp hv
      exact kR _ _ ⟨y, hy, rfl⟩ m7
    · obtain ⟨ns, rfl, hns⟩ := strs_in ys hg
      rw [List.length_map] at hl
      refine ⟨_, rfl, _, rfl, D, ns.map V.str, rfl, .inl ⟨sq_of (m7.ex _ _ hy), fun t ht => ?_⟩⟩
      have x8 := Ex.new (H := H7) (o := .tup (ns.map V.str)) ht
      refine ⟨(show 3 ≤ sizeLine by decide), fun p hp => ?_⟩
      have x9 := Ex.new (o := .tup [V.str "ask", .str word, .ref t]) hp
      have m9 := (m7.mono x8).mono x9
      refine k _ (.ask word ns) (rm2 _ a cl) _ (e5.trans (e7.trans m9.sub)) m9.big ⟨p, t, rfl, m9.keepT (SqT.of upd_same), m9.keepT (ex_t x9 (SqT.of upd_same))⟩ ?_
      have wf : (PT.ask word ns).wf NS 0 := ⟨hw, by omega, hns⟩
      cases n <;> exact wf
  refine ⟨_, rfl, _, _, rfl, rfl, _, rfl, ?_⟩
  refine iteD (fun c => ?_) fun _ => ask H m
  refine ⟨_, rfl, a, cl, 3, H0, rfl, m, ⟨by decide, by decide⟩, fun i H3 hi m3 => ⟨rfl, _, rfl, ?_⟩⟩
  refine iteI (fun _ => ?_) fun _ => ask H3 m3
  obtain ⟨j, rfl⟩ : ∃ j, n = j + 1 := ⟨n - 1, by omega⟩
  refine ⟨_, rfl, _, rfl, _, rfl, _, _, rfl, rfl, ?_⟩
  refine ⟨a, cl, nm, j, NS, H0, rfl, by show [V.ref a, V.ref nm, V.int (((j + 1 : Nat) : Int) - 1)] = _; rw [show ((j + 1 : Nat) : Int) - 1 = (j : Int) by omega], m3, hn, ⟨n1, n2⟩, fun v t H4 H5 e4 m5 ht wt => ?_⟩
  refine ⟨(show 2 ≤ sizeLine by decide), fun p hp => ?_⟩
  have x6 := Ex.new (o := .tup [V.str "not", v]) hp
  have m6 := m5.mono x6
  exact k _ (.not t) (rm2 _ a cl) _ (e4.trans m6.sub) m6.big ⟨p, v, rfl, m6.keepT (SqT.of upd_same), ht.mono m6.sub⟩ wt
theorem ok_law_ask (T : Txt w K mg) : ∀ n, FR P w K mg base (n + 3) (a_law_ask K) (sp_law_ask K n)
  | 0 => FR.never fun vs H Q ⟨_, _, _, _, _, _, h, _⟩ => nomatch h
  | n + 1 => ask_step T n (ok_law_ask T n)
end
end E97
set_option Elab.async false
set_option linter.all false
set_option maxRecDepth 100000
set_option maxHeartbeats 4000000
/-! P19: the law's rows -/
namespace E97
open PySem PySem.Spec PyProof.Rows L2 Evl NdefX
def L1At (K : PySem.W.Frag) (H : Hp) (v : V) : L1 → Prop
  | .put x g => PutAt K H v x g
  | .stop => ∃ a, v = .ref a ∧ SqT K H a [.str "stop"]
def LbAt (K : PySem.W.Frag) (H : Hp) (v : V) : Lb → Prop
  | .one r => L1At K H v r
  | .times n rs => ∃ a t vs, v = .ref a ∧ SqT K H a [.str "times", .int n, .ref t] ∧ SqT K H t vs ∧ Paired (L1At K H) vs rs
  | .ife t rs os => ∃ a u t1 t2 vs ws, v = .ref a ∧ SqT K H a [.str "if", u, .ref t1, .ref t2] ∧ AskAt K H u t ∧ (SqT K H t1 vs ∧ Paired (L1At K H) vs rs) ∧ SqT K H t2 ws ∧ Paired (L1At K H) ws os
theorem AskAt.map {K : PySem.W.Frag} {H H' : Hp} (q : ∀ a xs, SqT K H a xs → SqT K H' a xs) : ∀ {t : PT} {v : V}, AskAt K H v t → AskAt K H' v t
  | .ask _ _, _, ⟨a, r, h1, h2, h3⟩ => ⟨a, r, h1, q _ _ h2, q _ _ h3⟩
  | .not _, _, ⟨a, u, h1, h2, h3⟩ => ⟨a, u, h1, q _ _ h2, AskAt.map q h3⟩
theorem L1At.map {K : PySem.W.Frag} {H H' : Hp} (q : ∀ a xs, SqT K H a xs → SqT K H' a xs) {v : V} : ∀ {r : L1}, L1At K H v r → L1At K H' v r
  | .put _ _, ⟨a, r, h1, h2, h3⟩ => ⟨a, r, h1, q _ _ h2, q _ _ h3⟩
  | .stop, ⟨a, h1, h2⟩ => ⟨a, h1, q _ _ h2⟩
theorem LbAt.map {K : PySem.W.Frag} {H H' : Hp} (q : ∀ a xs, SqT K H a xs → SqT K H' a xs) {v : V} : ∀ {b : Lb}, LbAt K H v b → LbAt K H' v b
  | .one r, h => L1At.map q (r := r) h
  | .times _ _, ⟨a, t, vs, h1, h2, h3, h4⟩ => ⟨a, t, vs, h1, q _ _ h2, q _ _ h3, Paired.mapP h4 fun _ _ z => z.map q⟩
  | .ife _ _ _, ⟨a, u, t1, t2, vs, ws, h1, h2, h3, ⟨h4, h5⟩, h6, h7⟩ => ⟨a, u, t1, t2, vs, ws, h1, q _ _ h2, h3.map q, ⟨q _ _ h4, Paired.mapP h5 fun _ _ z => z.map q⟩, q _ _ h6, Paired.mapP h7 fun _ _ z => z.map q⟩
theorem LbAt.mono {K : PySem.W.Frag} {H H' : Hp} (e : Ex H H') {v : V} {b : Lb} (h : LbAt K H v b) : LbAt K H' v b := h.map fun _ _ z => ex_t e z
def cntB : Lb → Nat
  | .one _ => 1
  | .times _ rs => 1 + rs.length
  | .ife _ rs os => 1 + (rs.length + os.length)
def sp_law_count1 (K : PySem.W.Frag) : SP0 := fun vs H Q => ∃ v r, vs = [v] ∧ L1At K H v r ∧ ∀ H', Ex H H' → Q (.int 1) H'
def sp_law_count (K : PySem.W.Frag) : SP0 := fun vs H Q => ∃ v b, vs = [v] ∧ LbAt K H v b ∧ (cntB b ≤ 100) ∧ ∀ H', Ex H H' → Q (.int (cntB b)) H'
theorem L1At.head {K : PySem.W.Frag} {H : Hp} {v : V} {r : L1} (h : L1At K H v r) : ∃ a h xs, v = .ref a ∧ SqT K H a (.str h :: xs) ∧ ¬ h = "if" ∧ ¬ h = "times" := by
  cases r with
  | put x g =>
    obtain ⟨a, q, h1, h2, _⟩ := h
    exact ⟨a, _, _, h1, h2, by decide +kernel, by decide +kernel⟩
  | stop =>
    obtain ⟨a, h1, h2⟩ := h
    exact ⟨a, _, _, h1, h2, by decide +kernel, by decide +kernel⟩
theorem L1At.mono {K : PySem.W.Frag} {H H' : Hp} (e : Ex H H') {v : V} : ∀ {r : L1}, L1At K H v r → L1At K H' v r
  | .put _ _, ⟨a, q, h1, h2, h3⟩ => ⟨a, q, h1, ex_t e h2, ex_t e h3⟩
  | .stop, ⟨a, h1, h2⟩ => ⟨a, h1, ex_t e h2⟩
def EvTup (K : PySem.W.Frag) (te : TE) (σ : L2.St) (H : Hp) (xs : List V) : Prop := ∀ H1, Ex H H1 → ∀ Q : VK, (∀ p H2, Ex H1 H2 → SqT K H2 p xs → Q (.ref p) H2) → te σ H1 Q
theorem el_lcTup {K : PySem.W.Frag} {tl : TE} {g : TG} {tt : TT} {te : TE} {vs : List Nat} {σ : L2.St} {H : Hp} {xs ys : List V} (h : EvTup K tl σ H xs) (hz : xs.length ≤ 100000) (hs : Paired (fun x y => Turn g tt te vs σ H x (some y)) xs ys) : EvL (tLc (iTup K tl) g tt te vs) σ H ys := fun H1 e Q q =>
  h H1 e _ fun p H2 e2 h2 => by
    have c := el_lcTM (K := K) (tl := tC (.ref p)) (g := g) (tt := tt) (te := te) (vs := vs) (σ := σ) (H := H2) (ys := ys) (fun H1 e Q q => q H1 (Ex.refl H1)) h2 hz (Paired.mapP hs fun x y z H3 e3 => z H3 ((e.trans e2).trans e3))
    exact c H2 (Ex.refl _) Q fun p' H3 hp' e3 h3 => q p' H3 (fresh_back e2 hp') (e2.trans e3) h3
theorem sum_ones {α : Type} : ∀ l : List α, (l.map fun _ => (1 : Int)).sum = (l.length : Int)
  | [] => rfl
  | _ :: r => by
    rw [List.map_cons, List.sum_cons, sum_ones r, List.length_cons]
    omega
theorem cnt_sum {K : PySem.W.Frag} {sp : SP0} {tl : TE} {σ : L2.St} {H : Hp} {vs : List V} {rs : List L1} (z : Nat) (h : EvTup K tl σ H vs) (hr : Paired (fun v _ => ∀ H2, Ex H H2 → ∀ R : VK, (∀ H3, Ex H2 H3 → R (.int 1) H3) → sp [v] H2 R) vs rs) (hz : rs.length ≤ 1000) (hw : ∀ x, wipe ((wipe σ [z]).set z (some x)) [z] = wipe σ [z] ∧ (((wipe σ [z]).set z (some x))[z]? = some (some x)) := by intro x; exact ⟨rfl, rfl⟩) :
    Ev (tCB (rSum K) (tCons (tLc (iTup K tl) (gName z) tYes (tCallF sp (tCons (tVar z) tNil)) [z]) tNil)) σ H (.int rs.length) := fun H1 e Q q => by
  have c := el_lcTup (K := K) (tl := tl) (g := gName z) (tt := tYes) (te := tCallF sp (tCons (tVar z) tNil)) (vs := [z]) (σ := σ) (H := H) (xs := vs) (ys := (rs.map fun _ => (1 : Int)).map V.int) h (by rw [paired_len hr]; omega) (by
    rw [List.map_map]
    have y := pmap2 (S := fun x y => Turn (gName z) tYes (tCallF sp (tCons (tVar z) tNil)) [z] σ H x (some y)) (f := id) (h := fun _ : L1 => V.int 1) hr fun v r hv H2 e2 R kR => ⟨(hw v).1, _, (hw v).2, hv H2 e2 _ fun H3 e3 => kR H3 e3⟩
    rw [List.map_id] at y
    exact y)
  dsimp only [tCB, tCons]
  refine c H1 e _ fun p H2 hp e2 h2 => ⟨p, rs.map fun _ => 1, rfl, sq_of h2, ?_⟩
  rw [sum_ones]
  exact q H2 e2
theorem cnt1 {K : PySem.W.Frag} {H : Hp} {vs : List V} {rs : List L1} (hr : Paired (L1At K H) vs rs) : Paired (fun v _ => ∀ H2, Ex H H2 → ∀ R : VK, (∀ H3, Ex H2 H3 → R (.int 1) H3) → sp_law_count1 K [v] H2 R) vs rs :=
  Paired.mapP hr fun v r hv H2 e2 R kR => ⟨v, r, rfl, hv.mono e2, kR⟩
theorem cnt2 {K : PySem.W.Frag} {H : Hp} {vs : List V} {rs : List L1} (hr : Paired (L1At K H) vs rs) : Paired (fun v _ => ∀ H2, Ex H H2 → ∀ R : VK, (∀ H3, Ex H2 H3 → R (.int 1) H3) → sp_law_count K [v] H2 R) vs rs :=
  Paired.mapP hr fun v r hv H2 e2 R kR => ⟨v, .one r, rfl, hv.mono e2, (show 1 ≤ 100 by decide), kR⟩
section
variable {P : Program} {w : World} {K : PySem.W.Frag} {mg : Str → Option Value} {base : Heap} {NS : List Str}
theorem ok_law_count1 (T : Txt w K mg) (GC : FR P w K mg base 0 (a_law_count K) (fun _ _ _ => False)) : FR P w K mg base (1) (a_law_count K) (sp_law_count1 K) := by
  obtain ⟨fd, F⟩ := T.d_law_count
  refine mkR F sc_law_count (fun _ _ _ _ _ _ us hl => match us, hl with | [_], _ => rfl) (fun vs H Q h => by obtain ⟨v, r, rfl, hv, k⟩ := h; rfl) fun cdv A outer s H vs Q E hr h => ?_
  obtain ⟨v, r, rfl, hv, k⟩ := h
  refine ⟨_, (pss_cons (ps_if (pt_cmpR op_eq (pe_ix (kix_tup (K := K) rfl) (pv 0) pe_int (fun _ _ => rfl)) pe_str (nomark _)) (pss_one (ps_ret (pe_op op_add pe_int (pe_callB (kcr_sum (K := K) rfl rfl) (by rfl) T.z_sum b_sum (pa_cons (pe_lc (own := [("_law_one", 1)]) rfl sc_law_count.nd (kpi_tup (K := K) rfl (pe_op (kop_catA (K := K) rfl) (pe_ix (kix_tup (K := K) rfl) (pv 0) pe_int (fun _ _ => rfl)) (pe_ix (kix_tup (K := K) rfl) (pv 0) pe_int (fun _ _ => rfl)))) (blkOk_by (own := [("_law_one", 1)]) (N := N_law_count) (sc := defScope s_law_count) (by decide +kernel)) (fun _ _ _ _ _ => (pg_name (i := 1) sc_law_count.nd rfl (Or.inl rfl))) (fun _ _ _ _ _ => pts_nil) (fun _ _ _ _ _ => (pe_callF (GC) (hr.mono (by omega)) (by rfl) T.g_law_count T.k_law_count (pa_cons (pv 1) pa_nil)))) pa_nil))))) pss_nil)
  (pss_one (ps_ret (pe_ifExp (pt_cmpR op_eq (pe_ix (kix_tup (K := K) rfl) (pv 0) pe_int (fun _ _ => rfl)) pe_str (nomark _)) (pe_op op_add pe_int (pe_callB (kcr_sum (K := K) rfl rfl) (by rfl) T.z_sum b_sum (pa_cons (pe_lc (own := [("_law_one", 1)]) rfl sc_law_count.nd (kpi_tup (K := K) rfl (pe_ix (kix_tup (K := K) rfl) (pv 0) pe_int (fun _ _ => rfl))) (blkOk_by (own := [("_law_one", 1)]) (N := N_law_count) (sc := defScope s_law_count) (by decide +kernel)) (fun _ _ _ _ _ => (pg_name (i := 1) sc_law_count.nd rfl (Or.inl rfl))) (fun _ _ _ _ _ => pts_nil) (fun _ _ _ _ _ => (pe_callF (GC) (hr.mono (by omega)) (by rfl) T.g_law_count T.k_law_count (pa_cons (pv 1) pa_nil)))) pa_nil))) pe_int)))), ?_⟩
  obtain ⟨a, h, xs, rfl, ha, n1, n2⟩ := hv.head
  refine ⟨_, rfl, _, _, _, _, rfl, rfl, ha, at0, rfl, _, rfl, ?_⟩
  refine iteS (fun c => absurd c n1) fun _ => ?_
  refine ⟨_, rfl, _, _, _, _, rfl, rfl, ha, at0, rfl, _, rfl, ?_⟩
  refine iteS (fun c => absurd c n2) fun _ => ?_
  exact k H (Ex.refl H)
theorem ok_law_count1' (T : Txt w K mg) : FR P w K mg base 1 (a_law_count K) (sp_law_count1 K) := ok_law_count1 T (FR.never fun _ _ _ h => h)
theorem ok_law_count2 (T : Txt w K mg) (GC : FR P w K mg base 1 (a_law_count K) (sp_law_count1 K)) : FR P w K mg base (2) (a_law_count K) (sp_law_count K) := by
  obtain ⟨fd, F⟩ := T.d_law_count
  refine mkR F sc_law_count (fun _ _ _ _ _ _ us hl => match us, hl with | [_], _ => rfl) (fun vs H Q h => by obtain ⟨v, b, rfl, hv, hb, k⟩ := h; rfl) fun cdv A outer s H vs Q E hr h => ?_
  obtain ⟨v, b, rfl, hv, hb, k⟩ := h
  refine ⟨_, (pss_cons (ps_if (pt_cmpR op_eq (pe_ix (kix_tup (K := K) rfl) (pv 0) pe_int (fun _ _ => rfl)) pe_str (nomark _)) (pss_one (ps_ret (pe_op op_add pe_int (pe_callB (kcr_sum (K := K) rfl rfl) (by rfl) T.z_sum b_sum (pa_cons (pe_lc (own := [("_law_one", 1)]) rfl sc_law_count.nd (kpi_tup (K := K) rfl (pe_op (kop_catA (K := K) rfl) (pe_ix (kix_tup (K := K) rfl) (pv 0) pe_int (fun _ _ => rfl)) (pe_ix (kix_tup (K := K) rfl) (pv 0) pe_int (fun _ _ => rfl)))) (blkOk_by (own := [("_law_one", 1)]) (N := N_law_count) (sc := defScope s_law_count) (by decide +kernel)) (fun _ _ _ _ _ => (pg_name (i := 1) sc_law_count.nd rfl (Or.inl rfl))) (fun _ _ _ _ _ => pts_nil) (fun _ _ _ _ _ => (pe_callF (GC) (hr.mono (by omega)) (by rfl) T.g_law_count T.k_law_count (pa_cons (pv 1) pa_nil)))) pa_nil))))) pss_nil)
  (pss_one (ps_ret (pe_ifExp (pt_cmpR op_eq (pe_ix (kix_tup (K := K) rfl) (pv 0) pe_int (fun _ _ => rfl)) pe_str (nomark _)) (pe_op op_add pe_int (pe_callB (kcr_sum (K := K) rfl rfl) (by rfl) T.z_sum b_sum (pa_cons (pe_lc (own := [("_law_one", 1)]) rfl sc_law_count.nd (kpi_tup (K := K) rfl (pe_ix (kix_tup (K := K) rfl) (pv 0) pe_int (fun _ _ => rfl))) (blkOk_by (own := [("_law_one", 1)]) (N := N_law_count) (sc := defScope s_law_count) (by decide +kernel)) (fun _ _ _ _ _ => (pg_name (i := 1) sc_law_count.nd rfl (Or.inl rfl))) (fun _ _ _ _ _ => pts_nil) (fun _ _ _ _ _ => (pe_callF (GC) (hr.mono (by omega)) (by rfl) T.g_law_count T.k_law_count (pa_cons (pv 1) pa_nil)))) pa_nil))) pe_int)))), ?_⟩
  cases b with
  | one r =>
    obtain ⟨a, h, xs, rfl, ha, n1, n2⟩ := L1At.head (r := r) hv
    refine ⟨_, rfl, _, _, _, _, rfl, rfl, ha, at0, rfl, _, rfl, ?_⟩
    refine iteS (fun c => absurd c n1) fun _ => ?_
    refine ⟨_, rfl, _, _, _, _, rfl, rfl, ha, at0, rfl, _, rfl, ?_⟩
    refine iteS (fun c => absurd c n2) fun _ => ?_
    exact k H (Ex.refl H)
  | times n rs =>
    obtain ⟨a, t, vs, rfl, ha, ht, hr⟩ := hv
    have hb : 1 + rs.length ≤ 100 := hb
    refine ⟨_, rfl, _, _, _, _, rfl, rfl, ha, at0, rfl, _, rfl, ?_⟩
    refine iteS (fun c => absurd c (by decide +kernel)) fun _ => ?_
    refine ⟨_, rfl, _, _, _, _, rfl, rfl, ha, at0, rfl, _, rfl, ?_⟩
    refine iteS (fun _ => ?_) fun c => absurd rfl c
    have c := cnt_sum (K := K) (sp := sp_law_count1 K) (rs := rs) 1 (tl := tOp (rIxT K) (tVar 0) (tC (V.int 2))) (σ := [some (.ref a), none]) (H := H) (fun H1 e Q q => ⟨_, rfl, _, _, _, _, rfl, rfl, ex_t e ha, atI_nat (j := 2) rfl, q t H1 (Ex.refl H1) (ex_t e ht)⟩) (cnt1 hr) (by omega)
    dsimp only [tOp]
    refine c H (Ex.refl H) _ fun H1 e1 => ?_
    refine ⟨_, _, rfl, rfl, ?_⟩
    dsimp only
    rw [show (1 : Int) + (rs.length : Int) = ((1 + rs.length : Nat) : Int) by omega]
    exact k H1 e1
  | ife t rs os =>
    obtain ⟨a, u, t1, t2, vs, ws, rfl, ha, _, ⟨h1, r1⟩, h2, r2⟩ := hv
    have hb : 1 + (rs.length + os.length) ≤ 100 := hb
    have l1 := paired_len r1
    have l2 := paired_len r2
    refine ⟨_, rfl, _, _, _, _, rfl, rfl, ha, at0, rfl, _, rfl, ?_⟩
    refine iteS (fun _ => ?_) fun c => absurd rfl c
    have c := cnt_sum (K := K) (sp := sp_law_count1 K) (rs := rs ++ os) (vs := vs ++ ws) 1 (tl := tOp (rCatA K) (tOp (rIxT K) (tVar 0) (tC (V.int 2))) (tOp (rIxT K) (tVar 0) (tC (V.int 3)))) (σ := [some (.ref a), none]) (H := H)
      (fun H1 e Q q => ⟨_, rfl, _, _, _, _, rfl, rfl, ex_t e ha, atI_nat (j := 2) rfl, _, rfl, _, _, _, _, rfl, rfl, ex_t e ha, atI_nat (j := 3) rfl, t1, t2, vs, ws, rfl, rfl, ex_t e h1, ex_t e h2, Nat.le_trans (show _ ≤ 100 by omega) (by decide), fun z => q t2 H1 (Ex.refl H1) (by rw [z]; exact ex_t e h2), fun _ z => q t1 H1 (Ex.refl H1) (by rw [z, List.append_nil]; exact ex_t e h1), fun _ _ p hp => q p _ (Ex.new hp) (SqT.of upd_same)⟩) (cnt1 (paired_append r1 r2)) (by rw [List.length_append]; omega)
    dsimp only [tOp, tRet]
    refine c H (Ex.refl H) _ fun H1 e1 => ?_
    refine ⟨_, _, rfl, rfl, ?_⟩
    dsimp only
    rw [List.length_append, show (1 : Int) + ((rs.length + os.length : Nat) : Int) = ((1 + (rs.length + os.length) : Nat) : Int) by omega]
    exact k H1 e1
theorem ok_law_count (T : Txt w K mg) : FR P w K mg base 2 (a_law_count K) (sp_law_count K) := ok_law_count2 T (ok_law_count1' T)
end
end E97
set_option Elab.async false
set_option linter.all false
set_option maxRecDepth 100000
set_option maxHeartbeats 4000000
/-! P20: the law's rows are drawn -/
namespace E97
open PySem PySem.Spec PyProof.Rows L2 Evl NdefX
def onesB (bs : List Lb) : Prop := ∃ rs : List L1, bs = rs.map Lb.one
def cntS (bs : List Lb) : Nat := (bs.map cntB).sum
def L1.wf (NS : List Str) : L1 → Prop
  | .put x g => x ∈ NS ∧ g.wf NS
  | .stop => True
def Lb.wf (NS : List Str) : Lb → Prop
  | .one r => r.wf NS
  | .times n rs => n ≤ 4 ∧ ∀ r ∈ rs, r.wf NS
  | .ife t rs os => t.wf NS 4 ∧ (∀ r ∈ rs, r.wf NS) ∧ ∀ r ∈ os, r.wf NS
theorem cntS_add (bs : List Lb) (b : Lb) : cntS (bs ++ [b]) = cntS bs + cntB b := by
  unfold cntS
  rw [List.map_append, List.sum_append]
  rfl
theorem cntS_ones : ∀ rs : List L1, cntS (rs.map Lb.one) = rs.length
  | [] => rfl
  | r :: l => by
    have ih := cntS_ones l
    unfold cntS at ih ⊢
    rw [List.map_cons, List.map_cons, List.sum_cons, ih, List.length_cons, Nat.add_comm]
    rfl
theorem cntB_pos : ∀ b : Lb, 1 ≤ cntB b
  | .one _ => Nat.le_refl _
  | .times _ _ => Nat.le_add_right _ _
  | .ife _ _ _ => Nat.le_add_right _ _
theorem len_cntS : ∀ bs : List Lb, bs.length ≤ cntS bs
  | [] => Nat.le_refl _
  | b :: l => by
    have ih := len_cntS l
    have := cntB_pos b
    unfold cntS at ih ⊢
    rw [List.map_cons, List.sum_cons, List.length_cons]
    omega
theorem PT.wf_up {NS : List Str} : ∀ {n m : Nat} {t : PT}, n ≤ m → t.wf NS n → t.wf NS m
  | n, m, .ask wo ns, _, h => by
    have h : (PT.ask wo ns).wf NS 0 := by cases n <;> exact h
    cases m <;> exact h
  | 0, _, .not _, _, h => h.elim
  | n + 1, 0, .not t, hm, _ => absurd hm (by omega)
  | n + 1, m + 1, .not t, hm, h => PT.wf_up (t := t) (n := n) (m := m) (by omega) h
/-- the loop's word, and that between the row and its keeping -/
def RowsW (K : PySem.W.Frag) (NS : List Str) (Hb : Hp) (a cl nm fl : Addr) (room n j : Nat) (σ' : L2.St) (H' : Hp) : Prop := ∃ (vs : List V) (bs : List Lb) (o7 o8 o9 o10 o11 o12 : Option V), j + cntS bs = room ∧ (n = 0 → onesB bs) ∧ (∀ b ∈ bs, b.wf NS) ∧ DlAt Hb H' a cl ∧ H' fl = some (.lst vs) ∧ Paired (LbAt K H') vs bs ∧ σ' = [some (.ref a), some (.ref nm), some (.int room), some (.int n), some (.int 99), some (.ref fl), some (.int j), o7, o8, o9, o10, o11, o12]
def RowsMid (K : PySem.W.Frag) (NS : List Str) (Hc : Hp) (a cl nm fl : Addr) (room n j : Nat) (σ' : L2.St) (H' : Hp) : Prop := ∃ (v : V) (b : Lb) (Hm : Hp) (o7 o9 o10 o11 o12 : Option V), Ex Hc Hm ∧ DlAt Hm H' a cl ∧ LbAt K Hm v b ∧ (cntB b ≤ j ∧ (n = 0 → ∃ r, b = .one r) ∧ b.wf NS) ∧ σ' = [some (.ref a), some (.ref nm), some (.int room), some (.int n), some (.int 99), some (.ref fl), some (.int j), o7, some v, o9, o10, o11, o12]
theorem onesB_add {bs : List Lb} {b : Lb} (h : onesB bs) (h2 : ∃ r, b = .one r) : onesB (bs ++ [b]) := by
  obtain ⟨rs, rfl⟩ := h
  obtain ⟨r, rfl⟩ := h2
  exact ⟨rs ++ [r], by rw [List.map_append]; rfl⟩
def sp_law_rows (K : PySem.W.Frag) (n : Nat) : SP0 := fun vs H Q => ∃ (a cl nm : Addr) (e room : Nat) (NS : List Str) (H0 : Hp), n = e + 1 ∧ vs = [.ref a, .ref nm, .int room, .int e, .int 99] ∧ DlAt H0 H a cl ∧ H0 nm = some (.lst (NS.map V.str)) ∧ ((1 ≤ NS.length ∧ NS.length ≤ 4) ∧ room ≤ 4 ∧ e ≤ 1) ∧ ∀ p vs bs H1 H', Ex H0 H1 → DlAt H1 H' a cl → H1 p = some (.lst vs) → Paired (LbAt K H1) vs bs → (cntS bs ≤ room ∧ (e = 0 → onesB bs) ∧ ∀ b ∈ bs, b.wf NS) → Q (.ref p) H'
theorem lb_ones {K : PySem.W.Frag} {H : Hp} {vs : List V} {bs : List Lb} (h : Paired (LbAt K H) vs bs) (o : onesB bs) : ∃ rs : List L1, bs = rs.map Lb.one ∧ Paired (L1At K H) vs rs := by
  obtain ⟨rs, rfl⟩ := o
  refine ⟨rs, rfl, ?_⟩
  induction rs generalizing vs with
  | nil => cases h; exact .nil
  | cons r l ih =>
    cases h with
    | cons h1 h2 => exact .cons h1 (ih h2)
theorem lb_of_ones {K : PySem.W.Frag} {H : Hp} {vs : List V} {rs : List L1} (h : Paired (L1At K H) vs rs) : Paired (LbAt K H) vs (rs.map Lb.one) := by
  induction h with
  | nil => exact .nil
  | cons h1 _ ih => exact .cons h1 ih
theorem wf_ones {NS : List Str} {rs : List L1} (h : ∀ b ∈ rs.map Lb.one, b.wf NS) : ∀ r ∈ rs, r.wf NS := fun r hr => h (.one r) (List.mem_map_of_mem hr)
section
variable {P : Program} {w : World} {K : PySem.W.Frag} {mg : Str → Option Value} {base : Heap} {NS : List Str}
theorem rows_step (T : Txt w K mg) (n : Nat) (GA : FR P w K mg base 6 (a_law_ask K) (sp_law_ask K 3)) (GC : FR P w K mg base 2 (a_law_count K) (sp_law_count K)) (GR : FR P w K mg base (n + 10) (a_law_rows K) (sp_law_rows K n)) : FR P w K mg base (n + 11) (a_law_rows K) (sp_law_rows K (n + 1)) := by
  obtain ⟨fd, F⟩ := T.d_law_rows
  refine mkR F sc_law_rows (fun _ _ _ _ _ _ us hl => match us, hl with | [_, _, _, _, _], _ => rfl) (fun vs H Q h => by obtain ⟨a, cl, nm, e, room, NS, H0, hne, rfl, m, hn, ⟨⟨n1, n2⟩, hroom, he⟩, k⟩ := h; rfl) fun cdv A outer s H vs Q E hr h => ?_
  obtain ⟨a, cl, nm, e, room, NS, H0, hne, rfl, m, hn, ⟨⟨n1, n2⟩, hroom, he⟩, k⟩ := h
  refine ⟨_, (pss_cons (ps_par (i := 5) (j := 6) (by rfl) sc_law_rows.nd rfl rfl (by decide) rfl rfl (pa_cons (pe_lst pa_nil) (pa_cons (pv 2) pa_nil)) (by rfl))
  (pss_cons (ps_while PassesOwn.never (PW.pt (pw_and (pt_cmpR op_gt (pv 6) pe_int (nomark _)) (pw_and1 (pt_cmpR op_gt (pe_callF (ok_law_draw (K := K) T) (hr.mono (by omega)) (by rfl) T.g_law_draw T.k_law_draw (pa_cons (pv 0) (pa_cons pe_int pa_nil))) pe_int (nomark _))))) (pss_cons (ps_set (i := 7) sc_law_rows.nd rfl (Or.inl rfl) (pe_callF (ok_law_draw (K := K) T) (hr.mono (by omega)) (by rfl) T.g_law_draw T.k_law_draw (pa_cons (pv 0) (pa_cons pe_int pa_nil))))
  (pss_cons (ps_set (i := 8) sc_law_rows.nd rfl (Or.inl rfl) (pe_callF (ok_law_put (K := K) T) (hr.mono (by omega)) (by rfl) T.g_law_put T.k_law_put (pa_cons (pv 0) (pa_cons (pv 1) (pa_cons (pv 4) pa_nil)))))
  (pss_cut (ps_if (PW.pt (pw_and (pt_cmpR op_eq (pv 7) pe_int (nomark _)) (pw_and1 (pt_cmpR op_lt (pv 6) pe_int (nomark _))))) (pss_one (ps_set (i := 8) sc_law_rows.nd rfl (Or.inl rfl) (pe_tup (pa_cons pe_str pa_nil)))) (pss_one (ps_if (PW.pt (pw_and (pt_cmpR op_lt (pv 7) pe_int (nomark _)) (pw_and1 (pt_cmpR op_gt (pv 3) pe_int (nomark _))))) (pss_cons (ps_set (i := 9) sc_law_rows.nd rfl (Or.inl rfl) (pe_callTy (kcall_tuple (K := K) rfl) (by rfl) T.z_tuple b_tuple (pa_cons (pe_callF (GR) (hr.mono (by omega)) (by rfl) T.g_law_rows T.k_law_rows (pa_cons (pv 0) (pa_cons (pv 1) (pa_cons (pe_op op_sub (pv 6) pe_int) (pa_cons (pe_op op_sub (pv 3) pe_int) (pa_cons (pv 4) pa_nil)))))) pa_nil)))
  (pss_cons (ps_set (i := 10) sc_law_rows.nd rfl (Or.inl rfl) (pe_op op_sub (pe_op op_sub (pv 6) pe_int) (pe_callB (kcr_sum (K := K) rfl rfl) (by rfl) T.z_sum b_sum (pa_cons (pe_lc (own := [("_law_one", 12)]) rfl sc_law_rows.nd (kpi_tup (K := K) rfl (pv 9)) (blkOk_by (own := [("_law_one", 12)]) (N := N_law_rows) (sc := defScope s_law_rows) (by decide +kernel)) (fun _ _ _ _ _ => (pg_name (i := 12) sc_law_rows.nd rfl (Or.inl rfl))) (fun _ _ _ _ _ => pts_nil) (fun _ _ _ _ _ => (pe_callF (GC) (hr.mono (by omega)) (by rfl) T.g_law_count T.k_law_count (pa_cons (pv 12) pa_nil)))) pa_nil))))
  (pss_cons (ps_set (i := 8) sc_law_rows.nd rfl (Or.inl rfl) (pe_tup (pa_cons pe_str (pa_cons (pe_callF (ok_law_draw (K := K) T) (hr.mono (by omega)) (by rfl) T.g_law_draw T.k_law_draw (pa_cons (pv 0) (pa_cons pe_int pa_nil))) (pa_cons (pv 9) pa_nil)))))
  (pss_one (ps_if (pt_cmpR op_lt (pv 7) pe_int (nomark _)) (pss_cons (ps_set (i := 11) sc_law_rows.nd rfl (Or.inl rfl) (pe_callF (GA) (hr.mono (by omega)) (by rfl) T.g_law_ask T.k_law_ask (pa_cons (pv 0) (pa_cons (pv 1) (pa_cons pe_int pa_nil)))))
  (pss_one (ps_set (i := 8) sc_law_rows.nd rfl (Or.inl rfl) (pe_tup (pa_cons pe_str (pa_cons (pv 11) (pa_cons (pv 9) (pa_cons (pe_callTy (kcall_tuple (K := K) rfl) (by rfl) T.z_tuple b_tuple (pa_cons (pe_callF (GR) (hr.mono (by omega)) (by rfl) T.g_law_rows T.k_law_rows (pa_cons (pv 0) (pa_cons (pv 1) (pa_cons (pv 10) (pa_cons (pe_op op_sub (pv 3) pe_int) (pa_cons (pv 4) pa_nil)))))) pa_nil)) pa_nil)))))))) pss_nil))))) pss_nil)))
  (pss_cons (ps_expr (kpe_bm (K := K) rfl PySem.F.plainAttrs_list PySem.F.slot_list_append PySem.F.type_list_append mt_append (pv 5) (pa_cons (pv 8) pa_nil)))
  (pss_one (ps_set (i := 6) sc_law_rows.nd rfl (Or.inl rfl) (pe_op op_sub (pv 6) (pe_callF (GC) (hr.mono (by omega)) (by rfl) T.g_law_count T.k_law_count (pa_cons (pv 8) pa_nil))))))))))
  (pss_one (ps_ret (pv 5))))), ?_⟩
  obtain rfl : n = e := by omega
  refine ⟨Nat.zero_le _, fun fl hfl => ?_⟩
  refine ⟨_, rfl, _, _, rfl, ?_⟩
  have x1 := Ex.new (H := H) (o := .lst []) hfl
  have mb := m.big
  have sb := m.sub
  have hbf : rm2 H a cl fl = none := fresh_back mb.ex hfl
  obtain ⟨f1, f2⟩ := m.ne1 hfl
  have m2 := mb.mono x1
  have hnb := sb _ _ hn
  generalize rm2 H a cl = Hb at sb hbf m2 hnb
  refine ⟨RowsW K NS Hb a cl nm fl room n, ⟨room, [], [], _, _, _, _, _, _, rfl, fun _ => ⟨[], rfl⟩, fun _ h => (nomatch h), m2, upd_same, .nil, rfl⟩, ?_⟩
  rintro j σ' H1 ⟨vs, bs, o7, o8, o9, o10, o11, o12, q1, q2, q3, q4, q5, q6, rfl⟩
  have fin : ∀ (H2 : Hp) (Hc : Hp), Ex (rm2 H1 a cl) Hc → DlAt Hc H2 a cl → tRet (tVar 5) { nx := fun _ H' => Q .non H', rt := Q } [some (.ref a), some (.ref nm), some (.int room), some (.int n), some (.int 99), some (.ref fl), some (.int j), o7, o8, o9, o10, o11, o12] H2 := fun H2 Hc ec mc => by
    refine ⟨_, rfl, k fl vs bs Hc H2 (sb.trans (q4.sub.trans ec)) mc (ec _ _ (rm2_of q5 f1 f2)) (Paired.mapP q6 fun _ _ z => (z.map fun _ _ h => q4.keepT h).mono ec) ⟨by omega, q2, q3⟩⟩
  refine ⟨_, rfl, _, _, rfl, rfl, _, rfl, ?_⟩
  refine iteD (fun hj => ?_) fun hj => ?_
  rotate_left
  · exact if_neg_ (by decide) (fin H1 _ (Ex.refl _) q4.big)
  have hj : 1 ≤ j := by omega
  refine ⟨_, rfl, a, cl, 8, rm2 H1 a cl, rfl, q4.big, ⟨by decide, by decide⟩, fun i H2 hi m3 => ⟨_, _, rfl, rfl, _, rfl, ?_⟩⟩
  refine iteD (fun _ => ?_) fun _ => fin H2 _ (Ex.refl _) m3
  have nmc : rm2 H1 a cl nm = some (.lst (NS.map V.str)) := q4.sub _ _ hnb
  have flc := rm2_of q5 f1 f2
  refine ⟨fun σ' H' => ∃ m', m' < j ∧ RowsW K NS Hb a cl nm fl room n m' σ' H', fun _ _ h => h, ?_⟩
  refine ⟨_, rfl, a, cl, 8, rm2 H1 a cl, rfl, m3, ⟨by decide, by decide⟩, fun f H3 hf m4 => ?_⟩
  refine ⟨_, rfl, _, rfl, _, rfl, a, cl, nm, NS, rm2 H1 a cl, rfl, m4, nmc, ⟨n1, n2⟩, fun v x g Hm H4 em m5 hp wf => ?_⟩
  refine ⟨RowsMid K NS (rm2 H1 a cl) a cl nm fl room n j, ?_, ?_⟩
  · refine s_if (et_and (et_test (ev_op (ev_var rfl) ev_c (rv_eq rfl))) fun _ => et_test (ev_op (ev_var rfl) ev_c rv_I0)) (fun _ H5 e5 => ?_) fun _ H5 e5 => ?_
    · refine ⟨(show 1 ≤ sizeLine by decide), fun p hp' => ?_⟩
      have x6 := Ex.new (H := H5) (o := .tup [V.str "stop"]) hp'
      have m6 := (m5.mono e5).mono x6
      exact ⟨_, .one .stop, rm2 _ a cl, _, _, _, _, _, em.trans m6.sub, m6.big, ⟨p, rfl, m6.keepT (SqT.of upd_same)⟩, ⟨hj, fun _ => ⟨_, rfl⟩, trivial⟩, rfl⟩
    · refine s_if (et_and (et_test (ev_op (ev_var rfl) ev_c rv_I0)) fun _ => et_test (ev_op (ev_var rfl) ev_c rv_I0)) (fun hb H6 e6 => ?_) fun _ H6 e6 => ?_
      rotate_left
      · exact ⟨v, .one (.put x g), Hm, _, _, _, _, _, em, (m5.mono e5).mono e6, hp, ⟨hj, fun _ => ⟨_, rfl⟩, wf⟩, rfl⟩
      obtain ⟨n', rfl⟩ : ∃ n', n = n' + 1 := by
        have := of_decide_eq_true ((Bool.and_eq_true _ _).mp hb).2
        exact ⟨n - 1, by omega⟩
      obtain rfl : n' = 0 := by omega
      have m6 := (m5.mono e5).mono e6
      refine ⟨_, rfl, _, rfl, _, rfl, _, _, rfl, rfl, _, rfl, _, _, rfl, rfl, _, rfl, ?_⟩
      refine ⟨a, cl, nm, 0, j - 1, NS, Hm, rfl, by rw [show ((j - 1 : Nat) : Int) = (j : Int) - 1 by omega]; rfl, m6, em _ _ nmc, ⟨⟨n1, n2⟩, by omega, by omega⟩, fun p1 ws1 bs1 Hn H7 en m7 hp1 hr1 ⟨c1, o1, w1⟩ => ?_⟩
      obtain ⟨rs, rfl, hs1⟩ := lb_ones hr1 (o1 rfl)
      rw [cntS_ones] at c1
      refine ⟨p1, ws1, rfl, .inl ⟨sq_of (m7.ex _ _ hp1), fun t ht => ?_⟩⟩
      have x8 := Ex.new (H := H7) (o := .tup ws1) ht
      have m8 := m7.mono x8
      have ht8 : SqT K (upd H7 t (.tup ws1)) t ws1 := SqT.of upd_same
      generalize upd H7 t (.tup ws1) = H8 at m8 ht8
      have hr8 : Paired (L1At K H8) ws1 rs := Paired.mapP hs1 fun _ _ z => z.mono m8.ex
      have c := cnt_sum (K := K) (sp := sp_law_count K) (tl := tVar 9) (σ := [some (.ref a), some (.ref nm), some (.int room), some (.int (0 + 1 : Nat)), some (.int 99), some (.ref fl), some (.int j), some (.int f), some v, some (.ref t), o10, o11, o12]) (rs := rs) 12 (H := H8) (fun H1 e Q q => ⟨_, rfl, q t H1 (Ex.refl H1) (ex_t e ht8)⟩) (cnt2 hr8) (by omega)
      dsimp only [tSeq, tAsg, gName, List.set, tOp]
      refine ⟨_, rfl, _, _, rfl, rfl, c H8 (Ex.refl _) _ fun H9 e9 => ⟨_, _, rfl, rfl, ?_⟩⟩
      have m9 := m8.mono e9
      have ht9 : SqT K (rm2 H9 a cl) t ws1 := m9.keepT (ex_t e9 ht8)
      have hr9 : Paired (L1At K (rm2 H9 a cl)) ws1 rs := Paired.mapP hr8 fun _ _ z => (z.mono e9).map fun _ _ h => m9.keepT h
      have en9 : Ex (rm2 H1 a cl) (rm2 H9 a cl) := em.trans (en.trans m9.sub)
      refine ⟨_, rfl, a, cl, 4, rm2 H9 a cl, rfl, m9.big, ⟨by decide, by decide⟩, fun i10 H10 hi10 m10 => ⟨_, rfl, (show 3 ≤ sizeLine by decide), fun p2 hp2 => ?_⟩⟩
      obtain ⟨i10, rfl⟩ : ∃ z : Nat, i10 = z := ⟨i10.toNat, by omega⟩
      have x11 := Ex.new (o := .tup [V.str "times", .int i10, .ref t]) hp2
      have m11 := m10.mono x11
      refine ⟨_, rfl, _, _, rfl, rfl, _, rfl, ?_⟩
      refine iteD (fun _ => ?_) fun _ => ?_
      · refine ⟨_, rfl, _, rfl, a, cl, nm, 2, NS, rm2 H9 a cl, rfl, rfl, m11, en9 _ _ nmc, ⟨n1, n2⟩, fun u tt Hq H12 eq m12 hu wu => ?_⟩
        refine ⟨_, rfl, _, rfl, _, rfl, _, rfl, _, rfl, _, rfl, _, _, rfl, rfl, _, rfl, ?_⟩
        refine ⟨a, cl, nm, 0, j - 1 - rs.length, NS, Hq, rfl, by rw [show ((j - 1 - rs.length : Nat) : Int) = (j : Int) - 1 - (rs.length : Int) by omega]; rfl, m12, eq _ _ (en9 _ _ nmc), ⟨⟨n1, n2⟩, by omega, by omega⟩, fun p3 ws3 bs3 Hs H13 es m13 hp3 hr3 ⟨c3, o3, w3⟩ => ?_⟩
        obtain ⟨os, rfl, hs3⟩ := lb_ones hr3 (o3 rfl)
        rw [cntS_ones] at c3
        refine ⟨p3, ws3, rfl, .inl ⟨sq_of (m13.ex _ _ hp3), fun t3 ht3 => ⟨(show 4 ≤ sizeLine by decide), fun p4 hp4 => ?_⟩⟩⟩
        have x14 := Ex.new (H := H13) (o := .tup ws3) ht3
        have x15 := Ex.new (o := .tup [V.str "if", u, .ref t, .ref t3]) hp4
        have m15 := (m13.mono x14).mono x15
        have es15 := es.trans m15.sub
        have eq15 := eq.trans es15
        exact ⟨_, .ife tt rs os, rm2 _ a cl, _, _, _, _, _, en9.trans eq15, m15.big, ⟨p4, u, t, t3, ws1, ws3, rfl, m15.keepT (SqT.of upd_same), hu.mono es15, ⟨ex_t eq15 ht9, Paired.mapP hr9 fun _ _ z => z.mono eq15⟩, m15.keepT (ex_t x15 (SqT.of upd_same)), Paired.mapP hs3 fun _ _ z => z.mono m15.sub⟩, ⟨by show 1 + (rs.length + os.length) ≤ j; omega, fun h => absurd h (by decide), ⟨PT.wf_up (n := 2) (by decide) wu, wf_ones w1, wf_ones w3⟩⟩, rfl⟩
      · exact ⟨_, .times i10 rs, rm2 _ a cl, _, _, _, _, _, en9.trans m11.sub, m11.big, ⟨p2, t, ws1, rfl, m11.keepT (SqT.of upd_same), ex_t m11.sub ht9, Paired.mapP hr9 fun _ _ z => z.mono m11.sub⟩, ⟨by show 1 + rs.length ≤ j; omega, fun h => absurd h (by decide), ⟨by omega, wf_ones w1⟩⟩, rfl⟩
  · rintro σ' H5 ⟨v, b, Hm, o7, o9, o10, o11, o12, em, m5, hb, ⟨c1, c2, c3⟩, rfl⟩
    have hf := m5.ex _ _ (em _ _ flc)
    refine ⟨_, rfl, tyL hf, _, rfl, fl, _, _, rfl, rfl, hf, ?_, ?_⟩
    · have l1 := paired_len q6
      have l2 := len_cntS bs
      exact Nat.lt_of_le_of_lt (show vs.length ≤ 4 by omega) (by decide)
    have mm := (m5.down (q4.sub.trans em)).other (K := K) (o := .lst (vs ++ [v])) hbf f1 f2
    have keep : ∀ aa xs, SqT K H5 aa xs → SqT K (upd H5 fl (.lst (vs ++ [v]))) aa xs := fun _ _ h => sqT_wr hf (fun _ z => nomatch z) (fun _ _ z => nomatch z) h
    have hb5 := (hb.mono m5.ex).map keep
    refine ⟨_, rfl, _, rfl, v, b, rfl, hb5, by omega, fun H6 e6 => ⟨_, _, rfl, rfl, ?_⟩⟩
    refine ⟨j - cntB b, by have := cntB_pos b; omega, vs ++ [v], bs ++ [b], o7, some v, o9, o10, o11, o12, by rw [cntS_add]; omega, fun h => onesB_add (q2 h) (c2 h), fun z hz => ?_, mm.mono e6, e6 _ _ upd_same, paired_append (Paired.mapP q6 fun _ _ z => (((z.map fun _ _ h => q4.keepT h).mono (em.trans m5.ex)).map keep).mono e6) (.cons (hb5.mono e6) .nil), ?_⟩
    · rcases List.mem_append.mp hz with hz | hz
      · exact q3 z hz
      · rw [List.mem_singleton.mp hz]
        exact c3
    · rw [show ((j - cntB b : Nat) : Int) = (j : Int) - (cntB b : Int) by omega]
      rfl
theorem ok_law_rows (T : Txt w K mg) : ∀ n, FR P w K mg base (n + 10) (a_law_rows K) (sp_law_rows K n)
  | 0 => FR.never fun vs H Q ⟨_, _, _, _, _, _, _, h, _⟩ => nomatch h
  | n + 1 => rows_step T n (ok_law_ask T 3) (ok_law_count T) (ok_law_rows T n)
end
end E97
set_option Elab.async false
set_option linter.all false
set_option maxRecDepth 100000
set_option maxHeartbeats 4000000
/-! P21: the law's rows as lines, the package's program -/
namespace E97
open PySem PySem.Spec PyProof.Rows L2 Evl NdefX
def testT (t : PT) : Str := PySem.Txt.join " " (testW t)
theorem join_cons (a b : Str) (r : List Str) : PySem.Txt.join " " (a :: b :: r) = a ++ (Str.ofString " " ++ PySem.Txt.join " " (b :: r)) := by
  rw [TL.join_eq, TL.join_eq]
  apply TL.ext_tl
  rw [TL.tl_join, TL.tl_append, TL.tl_append, TL.tl_join]
  rfl
theorem join_one (a : Str) : PySem.Txt.join " " [a] = a := by
  rw [TL.join_eq]
  rfl
theorem app_assoc (a b c : Str) : a ++ b ++ c = a ++ (b ++ c) := by
  apply TL.ext_tl
  rw [TL.tl_append, TL.tl_append, TL.tl_append, TL.tl_append, List.append_assoc]
theorem testW_cons (t : PT) : ∃ w r, testW t = w :: r := by
  cases t with
  | ask word ns => exact ⟨_, _, rfl⟩
  | not t => exact ⟨_, _, rfl⟩
theorem pre_text {p q : Str} (h : p = q ++ Str.ofString " ") (t : PT) : p ++ testT t = PySem.Txt.join " " (q :: testW t) := by
  obtain ⟨w, r, e⟩ := testW_cons t
  unfold testT
  rw [e, join_cons, h, app_assoc]
theorem not_text (t : PT) : Str.ofString "not " ++ testT t = testT (.not t) := pre_text (q := "not") (by decide +kernel) t
theorem if_text (t : PT) : Str.ofString "if " ++ testT t = tkLine (.iff t) := pre_text (q := "if") (by decide +kernel) t
theorem times_text (n : Nat) : Str.ofString "times " ++ numS n = tkLine (.times n) := by
  show _ = PySem.Txt.join " " ["times", numS n]
  rw [join_cons, join_one, ← app_assoc]
  rw [show Str.ofString "times " = Str.ofString "times" ++ Str.ofString " " from by decide +kernel]
theorem sign_text (x a d b : Str) : x ++ Str.ofString " = " ++ a ++ Str.ofString " " ++ d ++ Str.ofString " " ++ b = PySem.Txt.join " " [x, "=", a, d, b] := by
  rw [join_cons, join_cons, join_cons, join_cons, join_one]
  rw [show Str.ofString " = " = Str.ofString " " ++ (Str.ofString "=" ++ Str.ofString " ") from by decide +kernel]
  simp only [app_assoc]
theorem PT.depth_le {NS : List Str} : ∀ {n : Nat} {t : PT}, t.wf NS n → t.depth ≤ n
  | _, .ask _ _, _ => Nat.zero_le _
  | 0, .not _, h => h.elim
  | n + 1, .not t, h => Nat.succ_le_succ (PT.depth_le (n := n) (t := t) h)
theorem join_small {ws : List Str} (h : ∀ y ∈ ws, y.length ≤ 8) (hl : ws.length ≤ 20) : (ws.map (·.length)).sum + ws.length * (Str.ofString " ").length ≤ 180 := by
  have s := sum_le (m := 8) (ys := ws) h
  have l2 : (Str.ofString " ").length = 1 := by decide +kernel
  rw [l2]
  omega
theorem testT_len {NS : List Str} (hNS : ∀ y ∈ NS, isNm y) {n : Nat} {t : PT} (h : t.wf NS n) (hn : n ≤ 4) : (testT t).length ≤ 180 := by
  obtain ⟨h1, h2⟩ := wd_test hNS h
  unfold testT
  rw [show PySem.Txt.join " " (testW t) = PySem.Str.join " " (testW t) from TL.join_eq " " (testW t)]
  exact Nat.le_trans (PySem.StrLaws.join_length_le _ _) (join_small (fun y hy => (h1 y hy).2) (by omega))
def sp_law_ask_text (K : PySem.W.Frag) (n : Nat) : SP0 := fun vs H Q => ∃ (v : V) (t : PT) (e : Nat) (NS : List Str), n = e + 1 ∧ vs = [v] ∧ AskAt K H v t ∧ e ≤ 4 ∧ (t.wf NS e ∧ ∀ y ∈ NS, isNm y) ∧ ∀ H', Ex H H' → Q (.str (testT t)) H'
def signsW : List Str := ["+", "-", "*", "//", "**"]
theorem two_sign : ∀ d ∈ twoD, decide (d ∈ signsW) = (tabSIGNS.lookup d).isSome := by decide +kernel
theorem put_sign {NS : List Str} {x : Str} {g : PutG} (wf : g.wf NS) (h : g.deed ∈ signsW) : ∃ a b, g.given = [a, b] ∧ putW x g = [x, "=", strOf a, g.deed, strOf b] := by
  cases g with
  | figs ks => exact absurd h (show ¬ (Str.ofString "figures") ∈ signsW by decide +kernel)
  | num k => exact absurd h (show ¬ (Str.ofString "number") ∈ signsW by decide +kernel)
  | base => exact absurd h (show ¬ (Str.ofString "base") ∈ signsW by decide +kernel)
  | pow y k => exact ⟨_, _, rfl, rfl⟩
  | one d y => exact absurd h ((show ∀ d ∈ oneD, ¬ d ∈ signsW by decide +kernel) d wf.1)
  | kone d k y => exact absurd h ((show ∀ d ∈ koneD, ¬ d ∈ signsW by decide +kernel) d wf.1)
  | two d y z =>
    refine ⟨_, _, rfl, ?_⟩
    have e := two_sign d wf.1
    rw [decide_eq_true (show d ∈ signsW from h)] at e
    show x :: "=" :: (if (tabSIGNS.lookup d).isSome then [y, d, z] else [d, y, z]) = _
    rw [← e, if_pos rfl]
    rfl
theorem put_plain {NS : List Str} {x : Str} {g : PutG} (wf : g.wf NS) (h : ¬ g.deed ∈ signsW) : putW x g = x :: "=" :: g.deed :: g.given.map strOf := by
  cases g with
  | figs ks => rfl
  | num k => rfl
  | base => rfl
  | pow y k => exact absurd (show (Str.ofString "**") ∈ signsW by decide +kernel) h
  | one d y => rfl
  | kone d k y => rfl
  | two d y z =>
    have e := two_sign d wf.1
    rw [decide_eq_false (show ¬ d ∈ signsW from h)] at e
    show x :: "=" :: (if (tabSIGNS.lookup d).isSome then [y, d, z] else [d, y, z]) = _
    rw [← e, if_neg (by decide)]
    rfl
theorem len_app (a b : Str) : (a ++ b).length = a.length + b.length := by
  rw [TL.len_tl, TL.len_tl, TL.len_tl, TL.tl_append, List.length_append]
theorem tks_len : ∀ b : Lb, b.tks.length ≤ 2 * cntB b
  | .one _ => by show 1 ≤ 2; decide
  | .times _ rs => by
    show (_ :: (rs.map L1.tk ++ [Tk.fin])).length ≤ 2 * (1 + rs.length)
    rw [List.length_cons, List.length_append, List.length_map]
    show rs.length + 1 + 1 ≤ _
    omega
  | .ife _ rs os => by
    show (_ :: (rs.map L1.tk ++ ((if os = [] then [] else .els :: os.map L1.tk) ++ [Tk.fin]))).length ≤ 2 * (1 + (rs.length + os.length))
    rw [List.length_cons, List.length_append, List.length_append, List.length_map]
    cases os with
    | nil => show rs.length + 1 + 1 ≤ 2 * (1 + (rs.length + 0)); omega
    | cons o l =>
      rw [if_neg (fun z => nomatch z), List.length_cons, List.length_map, List.length_cons]
      show rs.length + (l.length + 1 + 1 + 1) + 1 ≤ _
      omega
theorem allTks_len : ∀ bs : List Lb, (allTks bs).length ≤ 2 * cntS bs
  | [] => Nat.le_refl _
  | b :: l => by
    have ih := allTks_len l
    have h := tks_len b
    unfold allTks cntS at ih ⊢
    rw [List.flatMap_cons, List.length_append, List.map_cons, List.sum_cons]
    omega
theorem allTks_ones : ∀ rs : List L1, allTks (rs.map Lb.one) = rs.map L1.tk
  | [] => rfl
  | r :: l => by
    have ih := allTks_ones l
    unfold allTks at ih ⊢
    rw [List.map_cons, List.flatMap_cons, ih]
    rfl
theorem allTks_add (l : List Lb) (b : Lb) : allTks (l ++ [b]) = allTks l ++ b.tks := by
  unfold allTks
  rw [List.flatMap_append, List.flatMap_cons, List.flatMap_nil, List.append_nil]
def linesOf (ts : List Tk) : List V := (ts.map tkLine).map V.str
def sp_law_lines (K : PySem.W.Frag) (n : Nat) : SP0 := fun vs H Q => ∃ (v : V) (b : Lb) (e : Nat) (NS : List Str), n = e + 1 ∧ vs = [v] ∧ LbAt K H v b ∧ ((b.wf NS ∧ cntB b ≤ 4) ∧ (∀ y ∈ NS, isNm y) ∧ (e = 0 → ∃ r, b = .one r)) ∧ ∀ p H', H p = none → Ex H H' → H' p = some (.lst (linesOf b.tks)) → Q (.ref p) H'
def sp_law_all_lines (K : PySem.W.Frag) (n : Nat) : SP0 := fun vs H Q => ∃ (a : Addr) (ws : List V) (bs : List Lb) (e : Nat) (NS : List Str), n = e + 1 ∧ vs = [.ref a] ∧ (SqL K H a ws ∨ SqT K H a ws) ∧ Paired (LbAt K H) ws bs ∧ (((∀ b ∈ bs, b.wf NS) ∧ cntS bs ≤ 4) ∧ (∀ y ∈ NS, isNm y) ∧ (e = 0 → onesB bs)) ∧ ∀ p H', H p = none → Ex H H' → H' p = some (.lst (linesOf (allTks bs))) → Q (.ref p) H'
section
variable {P : Program} {w : World} {K : PySem.W.Frag} {mg : Str → Option Value} {base : Heap} {NS : List Str}
theorem ask_text_step (T : Txt w K mg) (n : Nat) (GT : FR P w K mg base (n + 1) (a_law_ask_text K) (sp_law_ask_text K n)) : FR P w K mg base (n + 2) (a_law_ask_text K) (sp_law_ask_text K (n + 1)) := by
  obtain ⟨fd, F⟩ := T.d_law_ask_text
  refine mkR F sc_law_ask_text (fun _ _ _ _ _ _ us hl => match us, hl with | [_], _ => rfl) (fun vs H Q h => by obtain ⟨v, t, e, NS, hne, rfl, hv, he, ⟨wf, hNS⟩, k⟩ := h; rfl) fun cdv A outer s H vs Q E hr h => ?_
  obtain ⟨v, t, e, NS, hne, rfl, hv, he, ⟨wf, hNS⟩, k⟩ := h
  refine ⟨_, (pss_one (ps_ret (pe_ifExp (pt_cmpR op_eq (pe_ix (kix_tup (K := K) rfl) (pv 0) pe_int (fun _ _ => rfl)) pe_str (nomark _)) (pe_op op_add_str pe_str (pe_callF (GT) (hr.mono (by omega)) (by rfl) T.g_law_ask_text T.k_law_ask_text (pa_cons (pe_ix (kix_tup (K := K) rfl) (pv 0) pe_int (fun _ _ => rfl)) pa_nil))) (kpe_join (K := K) rfl pe_str (pe_op op_cat (pe_lst (pa_cons (pe_ix (kix_tup (K := K) rfl) (pv 0) pe_int (fun _ _ => rfl)) pa_nil)) (pe_callTy (kcall_list (K := K) rfl) (by rfl) T.z_list b_list (pa_cons (pe_ix (kix_tup (K := K) rfl) (pv 0) pe_int (fun _ _ => rfl)) pa_nil))))))), ?_⟩
  obtain rfl : n = e := by omega
  cases t with
  | ask word ns =>
    obtain ⟨a, r, rfl, ha, hr'⟩ := hv
    refine ⟨_, rfl, _, _, _, _, rfl, rfl, ha, at0, rfl, _, rfl, ?_⟩
    refine iteS (fun c => absurd c (by decide +kernel)) fun _ => ?_
    refine ⟨⟨_, rfl⟩, _, rfl, _, _, _, _, rfl, rfl, ha, at1, (show 1 ≤ sizeLine by decide), fun p hp => ?_⟩
    have x1 := Ex.new (H := H) (o := .lst [V.str word]) hp
    refine ⟨_, rfl, _, _, _, _, rfl, rfl, ex_t x1 ha, atI_nat (j := 2) rfl, r, ns.map V.str, rfl, .inr (ex_t x1 hr'), fun l hl => ?_⟩
    have x2 := Ex.new (o := .lst (ns.map V.str)) hl
    obtain ⟨w1, w2⟩ := wd_test hNS wf
    have w2 : ns.length + 1 ≤ n + 3 := w2
    refine ⟨p, l, [V.str word], ns.map V.str, rfl, rfl, x2 _ _ upd_same, upd_same, Nat.le_trans (show _ ≤ 20 by rw [List.length_map]; show 1 + ns.length ≤ 20; omega) (by decide), fun q hq => ?_⟩
    refine ⟨_, q, word :: ns, rfl, rfl, .inl (sq_of upd_same), Nat.le_trans (join_small (fun y hy => (w1 y hy).2) (show ns.length + 1 ≤ 20 by omega)) (by decide), ?_⟩
    exact k _ (x1.trans (x2.trans (Ex.new hq)))
  | not t =>
    obtain ⟨a, u, rfl, ha, hu⟩ := hv
    obtain ⟨j, rfl⟩ : ∃ j, n = j + 1 := by
      cases n with
      | zero => exact wf.elim
      | succ j => exact ⟨j, rfl⟩
    refine ⟨_, rfl, _, _, _, _, rfl, rfl, ha, at0, rfl, _, rfl, ?_⟩
    refine iteS (fun _ => ?_) fun c => absurd rfl c
    refine ⟨_, rfl, _, _, _, _, rfl, rfl, ha, at1, u, t, j, NS, rfl, rfl, hu, by omega, ⟨wf, hNS⟩, fun H1 e1 => ?_⟩
    refine ⟨_, _, rfl, rfl, Nat.le_trans (Nat.add_le_add (show (Str.ofString "not ").length ≤ 4 by decide +kernel) (testT_len hNS (n := j) (t := t) wf (by omega))) (by decide), ?_⟩
    rw [not_text]
    exact k H1 e1
theorem ok_law_ask_text (T : Txt w K mg) : ∀ n, FR P w K mg base (n + 1) (a_law_ask_text K) (sp_law_ask_text K n)
  | 0 => FR.never fun vs H Q ⟨_, _, _, _, h, _⟩ => nomatch h
  | n + 1 => ask_text_step T n (ok_law_ask_text T n)
theorem linesOf_app (l m : List Tk) : linesOf (l ++ m) = linesOf l ++ linesOf m := by
  unfold linesOf
  rw [List.map_append, List.map_append]
theorem linesOf_len (l : List Tk) : (linesOf l).length = l.length := by
  unfold linesOf
  rw [List.length_map, List.length_map]
theorem lines_step (T : Txt w K mg) (n : Nat) (GT : FR P w K mg base 6 (a_law_ask_text K) (sp_law_ask_text K 5)) (GAL : FR P w K mg base (2 * n + 7) (a_law_all_lines K) (sp_law_all_lines K n)) : FR P w K mg base (2 * n + 8) (a_law_lines K) (sp_law_lines K (n + 1)) := by
  obtain ⟨fd, F⟩ := T.d_law_lines
  refine mkR F sc_law_lines (fun _ _ _ _ _ _ us hl => match us, hl with | [_], _ => rfl) (fun vs H Q h => by obtain ⟨v, b, e, NS, hne, rfl, hv, ⟨⟨wf, few⟩, hNS, hone⟩, k⟩ := h; rfl) fun cdv A outer s H vs Q E hr h => ?_
  obtain ⟨v, b, e, NS, hne, rfl, hv, ⟨⟨wf, few⟩, hNS, hone⟩, k⟩ := h
  refine ⟨_, (pss_cons (ps_if (pt_cmpR op_eq (pe_ix (kix_tup (K := K) rfl) (pv 0) pe_int (fun _ _ => rfl)) pe_str (nomark _)) (pss_one (ps_ret (pe_lst (pa_cons pe_str pa_nil)))) pss_nil)
  (pss_cons (ps_if (pt_cmpR op_eq (pe_ix (kix_tup (K := K) rfl) (pv 0) pe_int (fun _ _ => rfl)) pe_str (nomark _)) (pss_cons (ps_setLc (i := 1) (own := [("_law_arg", 3)]) rfl sc_law_lines.nd rfl rfl (sw_true rfl rfl rfl (by decide +kernel)) (kpi_tup (K := K) rfl (pe_ix (kix_tup (K := K) rfl) (pv 0) pe_int (fun _ _ => rfl))) (blkOk_by (own := [("_law_arg", 3)]) (N := N_law_lines) (sc := defScope s_law_lines) (by decide +kernel)) (fun _ _ _ _ _ => (pg_name (i := 3) sc_law_lines.nd rfl (Or.inl rfl))) (fun _ _ _ _ _ => pts_nil) (fun _ _ _ _ _ => (pe_callTy call_strA (by rfl) T.z_str b_str (pa_cons (pv 3) pa_nil))))
  (pss_cons (ps_if (pt_cmpR (kop_in (K := K) rfl) (pe_ix (kix_tup (K := K) rfl) (pv 0) pe_int (fun _ _ => rfl)) (pe_tup (pa_cons pe_str (pa_cons pe_str (pa_cons pe_str (pa_cons pe_str (pa_cons pe_str pa_nil)))))) (by rfl)) (pss_one (ps_ret (pe_lst (pa_cons (pe_op op_add_str (pe_op op_add_str (pe_op op_add_str (pe_op op_add_str (pe_op op_add_str (pe_op op_add_str (pe_ix (kix_tup (K := K) rfl) (pv 0) pe_int (fun _ _ => rfl)) pe_str) (pe_ix (kix_list (K := K) rfl) (pv 1) pe_int (fun _ _ => rfl))) pe_str) (pe_ix (kix_tup (K := K) rfl) (pv 0) pe_int (fun _ _ => rfl))) pe_str) (pe_ix (kix_list (K := K) rfl) (pv 1) pe_int (fun _ _ => rfl))) pa_nil)))) pss_nil)
  (pss_one (ps_ret (pe_lst (pa_cons (kpe_join (K := K) rfl pe_str (pe_op op_cat (pe_lst (pa_cons (pe_ix (kix_tup (K := K) rfl) (pv 0) pe_int (fun _ _ => rfl)) (pa_cons pe_str (pa_cons (pe_ix (kix_tup (K := K) rfl) (pv 0) pe_int (fun _ _ => rfl)) pa_nil)))) (pv 1))) pa_nil)))))) pss_nil)
  (pss_cons (ps_set (i := 2) sc_law_lines.nd rfl (Or.inl rfl) (pe_callF (GAL) (hr.mono (by omega)) (by rfl) T.g_law_all_lines T.k_law_all_lines (pa_cons (pe_ix (kix_tup (K := K) rfl) (pv 0) pe_int (fun _ _ => rfl)) pa_nil)))
  (pss_cons (ps_if (pt_cmpR op_eq (pe_ix (kix_tup (K := K) rfl) (pv 0) pe_int (fun _ _ => rfl)) pe_str (nomark _)) (pss_one (ps_ret (pe_op op_cat (pe_op op_cat (pe_lst (pa_cons (pe_op op_add_str pe_str (pe_callTy call_strA (by rfl) T.z_str b_str (pa_cons (pe_ix (kix_tup (K := K) rfl) (pv 0) pe_int (fun _ _ => rfl)) pa_nil))) pa_nil)) (pv 2)) (pe_lst (pa_cons pe_str pa_nil))))) pss_nil)
  (pss_cons (ps_if (pt_cmpR op_gt (pe_callB (kcall_len (K := K) rfl) (by rfl) T.z_len b_len (pa_cons (pe_ix (kix_tup (K := K) rfl) (pv 0) pe_int (fun _ _ => rfl)) pa_nil)) pe_int (nomark _)) (pss_one (ps_set (i := 2) sc_law_lines.nd rfl (Or.inl rfl) (pe_op op_cat (pe_op op_cat (pv 2) (pe_lst (pa_cons pe_str pa_nil))) (pe_callF (GAL) (hr.mono (by omega)) (by rfl) T.g_law_all_lines T.k_law_all_lines (pa_cons (pe_ix (kix_tup (K := K) rfl) (pv 0) pe_int (fun _ _ => rfl)) pa_nil))))) pss_nil)
  (pss_one (ps_ret (pe_op op_cat (pe_op op_cat (pe_lst (pa_cons (pe_op op_add_str pe_str (pe_callF (GT) (hr.mono (by omega)) (by rfl) T.g_law_ask_text T.k_law_ask_text (pa_cons (pe_ix (kix_tup (K := K) rfl) (pv 0) pe_int (fun _ _ => rfl)) pa_nil))) pa_nil)) (pv 2)) (pe_lst (pa_cons pe_str pa_nil)))))))))), ?_⟩
  obtain rfl : n = e := by omega
  cases b with
  | one r =>
    cases r with
    | stop =>
      obtain ⟨a, rfl, ha⟩ := hv
      refine ⟨_, rfl, _, _, _, _, rfl, rfl, ha, at0, rfl, _, rfl, ?_⟩
      refine iteS (fun _ => ?_) fun c => absurd rfl c
      refine ⟨(show 1 ≤ sizeLine by decide), fun p hp => ?_⟩
      refine k p _ hp (Ex.new hp) ?_
      show _ = some (HO.lst [V.str (tkLine .stop)])
      rw [show tkLine .stop = Str.ofString "stop" from join_one _]
      exact upd_same
    | put x g =>
      obtain ⟨a, r, rfl, ha, hr'⟩ := hv
      have wf : x ∈ NS ∧ g.wf NS := wf
      refine ⟨_, rfl, _, _, _, _, rfl, rfl, ha, at0, rfl, _, rfl, ?_⟩
      refine iteS (fun c => absurd c (by decide +kernel)) fun _ => ?_
      refine ⟨_, rfl, _, _, _, _, rfl, rfl, ha, at0, rfl, _, rfl, ?_⟩
      refine iteS (fun _ => ?_) fun c => absurd rfl c
      have gl := given_few wf.2
      refine q_asgL (xs := (g.given.map strOf).map V.str) ?_ fun wl H1 hq1 e1 h1 => ?_
      · rw [List.map_map]
        refine el_lcTup (xs := g.given) (fun H1 e Q q => ⟨_, rfl, _, _, _, _, rfl, rfl, ex_t e ha, atI_nat (j := 3) rfl, q r H1 (Ex.refl H1) (ex_t e hr')⟩) (by omega) ?_
        have id1 : g.given.map id = g.given := List.map_id _
        rw [← id1, List.map_map]
        refine pmap fun v hv => ?_
        intro H1 e1 R kR
        rcases given_each wf.2 hv with ⟨z, rfl, hz⟩ | ⟨y, hy, rfl⟩
        · exact ⟨rfl, _, rfl, .inr ⟨z, rfl, (nat_str hz).2, kR H1 (Ex.refl H1)⟩⟩
        · exact ⟨rfl, _, rfl, .inl ⟨y, rfl, kR H1 (Ex.refl H1)⟩⟩
      have wlen : (g.given.map strOf).length ≤ 6 := by rw [List.length_map]; exact gl
      have wsmall : ∀ y ∈ g.given.map strOf, y.length ≤ 8 := fun y hy => by
        obtain ⟨v, hv, rfl⟩ := List.mem_map.mp hy
        rcases given_each wf.2 hv with ⟨z, rfl, hz⟩ | ⟨y, hy2, rfl⟩
        · exact Nat.le_trans (nat_str hz).1 (by decide)
        · exact Nat.le_trans (hNS y hy2).1.2 (by decide)
      have xl : x.length ≤ 4 := (hNS x wf.1).1.2
      have dl := deed_len wf.2
      refine ⟨_, rfl, _, _, _, _, rfl, rfl, ex_t e1 ha, atI_nat (j := 2) rfl, (show 5 ≤ sizeLine by decide), fun q hq => ?_⟩
      have x2 := Ex.new (H := H1) (o := .tup [V.str "+", V.str "-", V.str "*", V.str "//", V.str "**"]) hq
      refine ⟨q, _, rfl, .inr (SqT.of upd_same), rfl, rfl, _, rfl, ?_⟩
      have e2 := e1.trans x2
      have h2 := x2 _ _ h1
      have ha2 := ex_t e2 ha
      generalize upd H1 q (.tup [V.str "+", V.str "-", V.str "*", V.str "//", V.str "**"]) = H2 at e2 h2 ha2 ⊢
      show if inV (V.str g.deed) (signsW.map V.str) = true then _ else _
      rw [inV_mem]
      refine iteD (fun c => ?_) fun c => ?_
      · obtain ⟨u1, u2, eg, ew⟩ := put_sign (x := x) wf.2 c
        rw [eg] at h2 wsmall
        have s1 := wsmall (strOf u1) (List.mem_cons_self)
        have s2 := wsmall (strOf u2) (List.mem_cons_of_mem _ List.mem_cons_self)
        have le : (Str.ofString " = ").length = 3 := by decide +kernel
        have l1 : (Str.ofString " ").length = 1 := by decide +kernel
        have big : ∀ {n m : Nat}, n + m ≤ 100 → n + m ≤ sizeLine := fun h => Nat.le_trans h (by decide)
        refine ⟨_, rfl, _, _, _, _, rfl, rfl, ha2, at1, _, _, rfl, rfl, big (by omega), ?_⟩
        refine ⟨_, rfl, _, _, _, _, rfl, rfl, sq_of h2, at0, _, _, rfl, rfl, big (by rw [len_app]; omega), ?_⟩
        refine ⟨_, _, rfl, rfl, big (by rw [len_app, len_app]; omega), ?_⟩
        refine ⟨_, rfl, _, _, _, _, rfl, rfl, ha2, atI_nat (j := 2) rfl, _, _, rfl, rfl, big (by rw [len_app, len_app, len_app]; omega), ?_⟩
        refine ⟨_, _, rfl, rfl, big (by rw [len_app, len_app, len_app, len_app]; omega), ?_⟩
        refine ⟨_, rfl, _, _, _, _, rfl, rfl, sq_of h2, at1, _, _, rfl, rfl, big (by rw [len_app, len_app, len_app, len_app, len_app]; omega), ?_⟩
        refine ⟨(show 1 ≤ sizeLine by decide), fun p hp => ?_⟩
        refine k p _ (fresh_back e2 hp) (e2.trans (Ex.new hp)) ?_
        show _ = some (HO.lst [V.str (PySem.Txt.join " " (putW x g))])
        rw [ew, ← sign_text]
        exact upd_same
      · have ew := put_plain (x := x) wf.2 c
        refine ⟨⟨_, rfl⟩, _, rfl, _, _, _, _, rfl, rfl, ha2, at1, _, rfl, _, _, _, _, rfl, rfl, ha2, atI_nat (j := 2) rfl, (show 3 ≤ sizeLine by decide), fun p hp => ?_⟩
        have x3 := Ex.new (H := H2) (o := .lst [V.str x, V.str "=", V.str g.deed]) hp
        refine ⟨_, rfl, p, wl, _, _, rfl, rfl, upd_same, x3 _ _ h2, Nat.le_trans (show _ ≤ 20 by rw [List.length_map]; show 3 + (g.given.map strOf).length ≤ 20; omega) (by decide), fun r2 hr2 => ?_⟩
        have x4 := Ex.new (o := .lst ([V.str x, V.str "=", V.str g.deed] ++ (g.given.map strOf).map V.str)) hr2
        refine ⟨_, r2, x :: "=" :: g.deed :: g.given.map strOf, rfl, rfl, .inl (sq_of upd_same), Nat.le_trans (join_small (fun y hy => ?_) ?_) (by decide), (show 1 ≤ sizeLine by decide), fun p5 hp5 => ?_⟩
        · rcases List.mem_cons.mp hy with rfl | hy
          · omega
          rcases List.mem_cons.mp hy with rfl | hy
          · decide +kernel
          rcases List.mem_cons.mp hy with rfl | hy
          · exact dl
          · exact wsmall y hy
        · rw [List.length_cons, List.length_cons, List.length_cons]
          omega
        · have x24 := e2.trans (x3.trans x4)
          refine k p5 _ (fresh_back x24 hp5) (x24.trans (Ex.new hp5)) ?_
          show _ = some (HO.lst [V.str (PySem.Txt.join " " (putW x g))])
          rw [ew]
          exact upd_same
  | times m rs =>
    obtain ⟨a, t, vs, rfl, ha, ht, hr'⟩ := hv
    have wf : m ≤ 4 ∧ ∀ r ∈ rs, r.wf NS := wf
    have few : 1 + rs.length ≤ 4 := few
    obtain ⟨n', rfl⟩ : ∃ n', n = n' + 1 := by
      cases n with
      | zero => obtain ⟨r, h⟩ := hone rfl; cases h
      | succ n' => exact ⟨n', rfl⟩
    refine ⟨_, rfl, _, _, _, _, rfl, rfl, ha, at0, rfl, _, rfl, ?_⟩
    refine iteS (fun c => absurd c (by decide +kernel)) fun _ => ?_
    refine ⟨_, rfl, _, _, _, _, rfl, rfl, ha, at0, rfl, _, rfl, ?_⟩
    refine iteS (fun c => absurd c (by decide +kernel)) fun _ => ?_
    refine ⟨_, rfl, _, _, _, _, rfl, rfl, ha, atI_nat (j := 2) rfl, t, vs, rs.map Lb.one, n', NS, rfl, rfl, .inr ht, lb_of_ones hr', ⟨⟨fun b hb => ?_, by rw [cntS_ones]; omega⟩, hNS, fun _ => ⟨rs, rfl⟩⟩, fun l H1 hl e1 h1 => ?_⟩
    · obtain ⟨r, hr0, rfl⟩ := List.mem_map.mp hb
      exact wf.2 r hr0
    rw [allTks_ones] at h1
    have ha1 := ex_t e1 ha
    refine ⟨_, rfl, _, _, _, _, rfl, rfl, ha1, at0, rfl, _, rfl, ?_⟩
    refine iteS (fun _ => ?_) fun c => absurd rfl c
    have nl : (numS m).length ≤ 5 := Nat.le_trans (nat_str (k := (m : Int)) (by omega)).1 (by decide)
    refine ⟨_, rfl, _, _, _, _, rfl, rfl, ha1, at1, .inr ⟨_, rfl, (nat_str (k := (m : Int)) (by omega)).2, _, _, rfl, rfl, Nat.le_trans (Nat.add_le_add (show (Str.ofString "times ").length ≤ 6 by decide +kernel) nl) (by decide), (show 1 ≤ sizeLine by decide), fun p hp => ?_⟩⟩
    have x2 := Ex.new (H := H1) (o := .lst [V.str (Str.ofString "times " ++ numS m)]) hp
    refine ⟨_, rfl, p, l, _, _, rfl, rfl, upd_same, x2 _ _ h1, Nat.le_trans (show _ ≤ 20 by rw [linesOf_len, List.length_map]; show 1 + rs.length ≤ 20; omega) (by decide), fun p2 hp2 => ?_⟩
    have x3 := Ex.new (o := .lst ([V.str (Str.ofString "times " ++ numS m)] ++ linesOf (rs.map L1.tk))) hp2
    refine ⟨(show 1 ≤ sizeLine by decide), fun p3 hp3 => ?_⟩
    have x4 := Ex.new (o := .lst [V.str "end"]) hp3
    refine ⟨p2, p3, _, _, rfl, rfl, x4 _ _ upd_same, upd_same, Nat.le_trans (show _ ≤ 20 by rw [List.length_append, linesOf_len, List.length_map]; show 1 + rs.length + 1 ≤ 20; omega) (by decide), fun p4 hp4 => ?_⟩
    have e14 := e1.trans (x2.trans (x3.trans x4))
    refine k p4 _ (fresh_back e14 hp4) (e14.trans (Ex.new hp4)) ?_
    rw [upd_same, show Str.ofString "times " ++ Str.ofString (toString (m : Int)) = tkLine (.times m) from times_text m]
    show _ = some (HO.lst (linesOf ([Tk.times m] ++ (rs.map L1.tk ++ [Tk.fin]))))
    rw [linesOf_app, linesOf_app, ← List.append_assoc]
    rw [show linesOf [Tk.fin] = [V.str "end"] from congrArg (fun z => [V.str z]) (join_one _)]
    rfl
  | ife t rs os =>
    obtain ⟨a, u, t1, t2, vs, ws, rfl, ha, hu, ⟨ht1, hr1⟩, ht2, hr2⟩ := hv
    have wf : t.wf NS 4 ∧ (∀ r ∈ rs, r.wf NS) ∧ ∀ r ∈ os, r.wf NS := wf
    have few : 1 + (rs.length + os.length) ≤ 4 := few
    obtain ⟨n', rfl⟩ : ∃ n', n = n' + 1 := by
      cases n with
      | zero => obtain ⟨r, h⟩ := hone rfl; cases h
      | succ n' => exact ⟨n', rfl⟩
    refine ⟨_, rfl, _, _, _, _, rfl, rfl, ha, at0, rfl, _, rfl, ?_⟩
    refine iteS (fun c => absurd c (by decide +kernel)) fun _ => ?_
    refine ⟨_, rfl, _, _, _, _, rfl, rfl, ha, at0, rfl, _, rfl, ?_⟩
    refine iteS (fun c => absurd c (by decide +kernel)) fun _ => ?_
    refine ⟨_, rfl, _, _, _, _, rfl, rfl, ha, atI_nat (j := 2) rfl, t1, vs, rs.map Lb.one, n', NS, rfl, rfl, .inr ht1, lb_of_ones hr1, ⟨⟨fun b hb => ?_, by rw [cntS_ones]; omega⟩, hNS, fun _ => ⟨rs, rfl⟩⟩, fun l H1 hl e1 h1 => ?_⟩
    · obtain ⟨r, hr0, rfl⟩ := List.mem_map.mp hb
      exact wf.2.1 r hr0
    rw [allTks_ones] at h1
    have ha1 := ex_t e1 ha
    refine ⟨_, rfl, _, _, _, _, rfl, rfl, ha1, at0, rfl, _, rfl, ?_⟩
    refine iteS (fun c => absurd c (by decide +kernel)) fun _ => ?_
    have ht21 := ex_t e1 ht2
    refine ⟨_, rfl, _, _, _, _, rfl, rfl, ha1, atI_nat (j := 3) rfl, t2, ws, rfl, .inr ht21, _, _, rfl, rfl, _, rfl, ?_⟩
    have lw := paired_len hr2
    have mid : ∃ mid : List Tk, (Lb.ife t rs os).tks = [Tk.iff t] ++ (mid ++ [Tk.fin]) ∧ (os = [] → mid = rs.map L1.tk) ∧ (os ≠ [] → mid = rs.map L1.tk ++ ([Tk.els] ++ os.map L1.tk)) := by
      refine ⟨rs.map L1.tk ++ (if os = [] then [] else .els :: os.map L1.tk), ?_, fun h => ?_, fun h => ?_⟩
      · rw [List.append_assoc]
        rfl
      · rw [if_pos h, List.append_nil]
      · rw [if_neg h]
        rfl
    obtain ⟨mid, tk, m1, m2⟩ := mid
    rw [tk] at k
    refine iteD (fun c => ?_) fun c => ?_
    · have hne : os ≠ [] := fun h => by
        rw [h] at lw
        rw [lw] at c
        exact absurd c (by decide)
      have m2 := m2 hne
      refine ⟨_, rfl, (show 1 ≤ sizeLine by decide), fun p2 hp2 => ?_⟩
      have x2 := Ex.new (H := H1) (o := .lst [V.str "else"]) hp2
      refine ⟨l, p2, _, _, rfl, rfl, x2 _ _ h1, upd_same, Nat.le_trans (show _ ≤ 20 by rw [linesOf_len, List.length_map]; show rs.length + 1 ≤ 20; omega) (by decide), fun p3 hp3 => ?_⟩
      have x3 := Ex.new (o := .lst (linesOf (rs.map L1.tk) ++ [V.str "else"])) hp3
      have e3 := e1.trans (x2.trans x3)
      refine ⟨_, rfl, _, _, _, _, rfl, rfl, ex_t e3 ha, atI_nat (j := 3) rfl, t2, ws, os.map Lb.one, n', NS, rfl, rfl, .inr (ex_t e3 ht2), lb_of_ones (Paired.mapP hr2 fun _ _ z => z.mono e3), ⟨⟨fun b hb => ?_, by rw [cntS_ones]; omega⟩, hNS, fun _ => ⟨os, rfl⟩⟩, fun l4 H4 hl4 e4 h4 => ?_⟩
      · obtain ⟨r, hr0, rfl⟩ := List.mem_map.mp hb
        exact wf.2.2 r hr0
      rw [allTks_ones] at h4
      refine ⟨p3, l4, _, _, rfl, rfl, e4 _ _ upd_same, h4, Nat.le_trans (show _ ≤ 20 by rw [List.length_append, linesOf_len, linesOf_len, List.length_map, List.length_map]; show rs.length + 1 + os.length ≤ 20; omega) (by decide), fun lq hlq => ?_⟩
      have x5 := Ex.new (o := .lst (linesOf (rs.map L1.tk) ++ [V.str "else"] ++ linesOf (os.map L1.tk))) hlq
      have eq := e3.trans (e4.trans x5)
      have hq : (upd H4 lq (.lst (linesOf (rs.map L1.tk) ++ [V.str "else"] ++ linesOf (os.map L1.tk)))) lq = some (.lst (linesOf mid)) := by
        rw [upd_same, m2, linesOf_app, linesOf_app, List.append_assoc, show linesOf [Tk.els] = [V.str "else"] from congrArg (fun z => [V.str z]) (join_one _)]
      have lm : mid.length ≤ 8 := by
        rw [m2, List.length_append, List.length_append, List.length_map, List.length_map]
        show rs.length + (1 + os.length) ≤ 8
        omega
      generalize upd H4 lq (.lst (linesOf (rs.map L1.tk) ++ [V.str "else"] ++ linesOf (os.map L1.tk))) = Hq at eq hq
      have ha6 := ex_t eq ha
      refine ⟨_, rfl, _, _, _, _, rfl, rfl, ha6, at1, u, t, 4, NS, rfl, rfl, hu.mono eq, by decide, ⟨wf.1, hNS⟩, fun H6 e6 => ?_⟩
      refine ⟨_, _, rfl, rfl, Nat.le_trans (Nat.add_le_add (show (Str.ofString "if ").length ≤ 3 by decide +kernel) (testT_len hNS wf.1 (by decide))) (by decide), (show 1 ≤ sizeLine by decide), fun p7 hp7 => ?_⟩
      have x7 := Ex.new (H := H6) (o := .lst [V.str (Str.ofString "if " ++ testT t)]) hp7
      refine ⟨_, rfl, p7, lq, _, _, rfl, rfl, upd_same, x7 _ _ (e6 _ _ hq), Nat.le_trans (show _ ≤ 20 by rw [linesOf_len]; show 1 + mid.length ≤ 20; omega) (by decide), fun p8 hp8 => ?_⟩
      have x8 := Ex.new (o := .lst ([V.str (Str.ofString "if " ++ testT t)] ++ linesOf mid)) hp8
      refine ⟨(show 1 ≤ sizeLine by decide), fun p9 hp9 => ?_⟩
      have x9 := Ex.new (o := .lst [V.str "end"]) hp9
      refine ⟨p8, p9, _, _, rfl, rfl, x9 _ _ upd_same, upd_same, Nat.le_trans (show _ ≤ 20 by rw [List.length_append, linesOf_len]; show 1 + mid.length + 1 ≤ 20; omega) (by decide), fun p10 hp10 => ?_⟩
      have e19 := eq.trans (e6.trans (x7.trans (x8.trans x9)))
      refine k p10 _ (fresh_back e19 hp10) (e19.trans (Ex.new hp10)) ?_
      rw [upd_same, if_text, linesOf_app, linesOf_app, ← List.append_assoc, show linesOf [Tk.fin] = [V.str "end"] from congrArg (fun z => [V.str z]) (join_one _)]
      rfl
    · have hnil : os = [] := by
        cases os with
        | nil => rfl
        | cons o r =>
          exact absurd (show (0 : Int) < (ws.length : Int) by rw [lw, List.length_cons]; omega) c
      have m1 := m1 hnil
      have lm : mid.length ≤ 8 := by
        rw [m1, List.length_map]
        omega
      rw [← m1] at h1
      have eq := e1
      have hq := h1
      generalize H1 = Hq at eq hq
      generalize l = lq at hq
      have ha6 := ex_t eq ha
      refine ⟨_, rfl, _, _, _, _, rfl, rfl, ha6, at1, u, t, 4, NS, rfl, rfl, hu.mono eq, by decide, ⟨wf.1, hNS⟩, fun H6 e6 => ?_⟩
      refine ⟨_, _, rfl, rfl, Nat.le_trans (Nat.add_le_add (show (Str.ofString "if ").length ≤ 3 by decide +kernel) (testT_len hNS wf.1 (by decide))) (by decide), (show 1 ≤ sizeLine by decide), fun p7 hp7 => ?_⟩
      have x7 := Ex.new (H := H6) (o := .lst [V.str (Str.ofString "if " ++ testT t)]) hp7
      refine ⟨_, rfl, p7, lq, _, _, rfl, rfl, upd_same, x7 _ _ (e6 _ _ hq), Nat.le_trans (show _ ≤ 20 by rw [linesOf_len]; show 1 + mid.length ≤ 20; omega) (by decide), fun p8 hp8 => ?_⟩
      have x8 := Ex.new (o := .lst ([V.str (Str.ofString "if " ++ testT t)] ++ linesOf mid)) hp8
      refine ⟨(show 1 ≤ sizeLine by decide), fun p9 hp9 => ?_⟩
      have x9 := Ex.new (o := .lst [V.str "end"]) hp9
      refine ⟨p8, p9, _, _, rfl, rfl, x9 _ _ upd_same, upd_same, Nat.le_trans (show _ ≤ 20 by rw [List.length_append, linesOf_len]; show 1 + mid.length + 1 ≤ 20; omega) (by decide), fun p10 hp10 => ?_⟩
      have e19 := eq.trans (e6.trans (x7.trans (x8.trans x9)))
      refine k p10 _ (fresh_back e19 hp10) (e19.trans (Ex.new hp10)) ?_
      rw [upd_same, if_text, linesOf_app, linesOf_app, ← List.append_assoc, show linesOf [Tk.fin] = [V.str "end"] from congrArg (fun z => [V.str z]) (join_one _)]
      rfl
end
end E97
set_option Elab.async false
set_option linter.all false
set_option maxRecDepth 100000
set_option maxHeartbeats 4000000
/-! P22: all lines, the program of the law's rows -/
namespace E97
open PySem PySem.Spec PyProof.Rows L2 Evl NdefX
/-- over a list or a tuple that stays -/
theorem for_any {K : PySem.W.Frag} {a : Addr} {xs : List V} {g : TG} {tb : TS} {D : Ends} {σ : L2.St} {H Hb : Hp} {z : Nat} (hz : σ[z]? = some (some (.ref a))) (hq : SqL K Hb a xs ∨ SqT K Hb a xs) (e0 : Ex Hb H) (Pv : Nat → L2.St → Hp → Prop) (h0 : Pv 0 σ H) (hl : ∀ i σ' H', i ≤ xs.length → Pv i σ' H' → Ex Hb H')
    (hs : ∀ i x σ' H', xs[i]? = some x → Pv i σ' H' → g x σ' H' fun σ2 H2 => tb { D with nx := Pv (i + 1), ct := Pv (i + 1), bk := D.nx } σ2 H2) (hd : ∀ σ' H', Pv xs.length σ' H' → D.nx σ' H') : tFor (iAny K (tVar z)) g tb D σ H := by
  rcases hq with hq | hq
  · exact ⟨_, hz, a, rfl, .inl ⟨⟨xs, ex_l e0 hq⟩, for_list Pv h0 (fun i σ' H' hi p => ex_l (hl i σ' H' hi p) hq) hs hd⟩⟩
  · exact ⟨_, hz, a, rfl, .inr ⟨⟨xs, ex_t e0 hq⟩, for_tup Pv h0 (fun i σ' H' hi p => ex_t (hl i σ' H' hi p) hq) hs hd⟩⟩
theorem cnt_mem {b : Lb} : ∀ {bs : List Lb}, b ∈ bs → cntB b ≤ cntS bs
  | c :: l, h => by
    unfold cntS
    rw [List.map_cons, List.sum_cons]
    rcases List.mem_cons.mp h with rfl | h
    · omega
    · have := cnt_mem h
      unfold cntS at this
      omega
theorem cntS_take (bs : List Lb) (i : Nat) : cntS (bs.take i) ≤ cntS bs := by
  have e : cntS bs = cntS (bs.take i) + cntS (bs.drop i) := by
    unfold cntS
    rw [← List.sum_append, ← List.map_append, List.take_append_drop]
  omega
theorem L1.tk_wf {NS : List Str} {r : L1} (h : r.wf NS) : r.tk.wf NS := by
  cases r with
  | put x g => exact h
  | stop => trivial
theorem Lb.tks_wf {NS : List Str} {b : Lb} (h : b.wf NS) : ∀ t ∈ b.tks, t.wf NS := by
  intro t ht
  have l1 : ∀ {rs : List L1}, (∀ r ∈ rs, r.wf NS) → ∀ t ∈ rs.map L1.tk, t.wf NS := fun h t ht => by
    obtain ⟨r, hr, rfl⟩ := List.mem_map.mp ht
    exact L1.tk_wf (h r hr)
  cases b with
  | one r => rw [List.mem_singleton.mp ht]; exact L1.tk_wf h
  | times n rs =>
    rcases List.mem_cons.mp ht with rfl | ht
    · exact h.1
    rcases List.mem_append.mp ht with ht | ht
    · exact l1 h.2 t ht
    · rw [List.mem_singleton.mp ht]; trivial
  | ife u rs os =>
    rcases List.mem_cons.mp ht with rfl | ht
    · exact h.1
    rcases List.mem_append.mp ht with ht | ht
    · exact l1 h.2.1 t ht
    rcases List.mem_append.mp ht with ht | ht
    · split at ht
      · cases ht
      · rcases List.mem_cons.mp ht with rfl | ht
        · trivial
        · exact l1 h.2.2 t ht
    · rw [List.mem_singleton.mp ht]; trivial
theorem L1.rw_wf {NS : List Str} {r : L1} {d : Nat} (h : r.wf NS) : Rw.wf NS (d + 1) (L1.rw (d := d) r : RF (Rw d)) := by
  cases r with
  | put x g => exact h
  | stop => trivial
theorem Lb.rw_wf {NS : List Str} {b : Lb} (h : b.wf NS) (hc : cntB b ≤ 4) : Rw.wf NS 2 b.rw := by
  have l1 : ∀ {rs : List L1}, (∀ r ∈ rs, r.wf NS) → ∀ r ∈ rs.map L1.rw1, Rw.wf NS 1 r := fun h t ht => by
    obtain ⟨r, hr, rfl⟩ := List.mem_map.mp ht
    exact L1.rw_wf (h r hr)
  cases b with
  | one r => exact L1.rw_wf (r := r) h
  | times n rs =>
    have hc : 1 + rs.length ≤ 4 := hc
    exact ⟨h.1, by rw [List.length_map]; omega, l1 h.2⟩
  | ife u rs os =>
    have hc : 1 + (rs.length + os.length) ≤ 4 := hc
    exact ⟨h.1, ⟨by rw [List.length_map]; omega, l1 h.2.1⟩, by rw [List.length_map]; omega, l1 h.2.2⟩
section
variable {X : Cx} {k : Nat} {C m : Str} {sp : SP0} {e o : Expr} {es : List Expr} {t : TA} {ta : TE} {pos apos : Pos}
/-- C.m(e, ..), m a classmethod of the class C -/
def tCMF (C : Addr) (sp : SP0) (ta : TE) (t : TA) : TE := fun σ H Q => ta σ H fun x H1 => x = .ref C ∧ t σ H1 fun vs H2 => sp (.ref C :: vs) H2 Q
theorem cm_of {K : PySem.W.Frag} {C m : Str} (h : cmB K C m = true) : ClX.CRead K (He.ga K C) (.type "type") ∧ ClX.CMet K (He.ga K C) (.type "type") m (cmRec K C m) (cmFn K C m) := by
  unfold cmB at h
  obtain ⟨h1, h⟩ := He.ba h
  obtain ⟨h2, h⟩ := He.ba h
  obtain ⟨h3, h⟩ := He.ba h
  obtain ⟨h4, h5⟩ := He.ba h
  refine ⟨⟨h1, He.eqO_ok h2⟩, ⟨?_, ?_, h5⟩⟩
  · split at h3
    · rename_i g p D e
      obtain ⟨e1, h3⟩ := He.ba h3
      obtain ⟨e2, e3⟩ := He.ba h3
      rw [e, eq_of_beq e1, eq_of_beq e2, eq_of_beq e3]
    · cases h3
  · split at h4
    · rename_i g rest e
      refine ⟨rest, ?_⟩
      unfold cmFn
      rw [e]
    · cases h4
theorem pe_cmF {K : PySem.W.Frag} (hK : X.K = K) (B : cmB K C m = true) (he : PE X o ta) (F : FR X.prog X.w K X.mg X.base k (cmFn K C m) sp) (hr : Room k X.A) (ha : PA X (e :: es) t) {pl : Sem Bool}
    (hst : starEach (e :: es) X.env = (false, eval e X.env) :: starEach es X.env := by rfl) (hpl : (backTo pos (starEach es X.env)).any (·.1) = false := by rfl)
    (ht : eval (.Call (.Attribute o m apos) (e :: es) [] pos) X.env = (do
      let ov ← eval o X.env
      standAt apos.atName
      let (f, first) ← holding [ov] (getMethod ov m pl)
      callWith pos f first (backTo pos (starEach (e :: es) X.env)) (backToKw pos (keywordEach [] X.env))) := by rfl) :
    PE X (.Call (.Attribute o m apos) (e :: es) [] pos) (tCMF (He.ga K C) sp ta t) := by
  subst hK
  obtain ⟨r, c⟩ := cm_of B
  exact ClX.pe_cmeth (E := E0) (pl := pl) he r c F hr pass0 ha hst hpl ht
end
section
variable {P : Program} {w : World} {K : PySem.W.Frag} {mg : Str → Option Value} {base : Heap} {NS : List Str}
theorem all_lines_step (T : Txt w K mg) (n : Nat) (GL : FR P w K mg base (2 * n + 6) (a_law_lines K) (sp_law_lines K n)) : FR P w K mg base (2 * n + 7) (a_law_all_lines K) (sp_law_all_lines K n) := by
  obtain ⟨fd, F⟩ := T.d_law_all_lines
  refine mkR F sc_law_all_lines (fun _ _ _ _ _ _ us hl => match us, hl with | [_], _ => rfl) (fun vs H Q h => by obtain ⟨a, ws, bs, e, NS, hne, rfl, hq, hp, ⟨⟨wf, few⟩, hNS, hone⟩, k⟩ := h; rfl) fun cdv A outer s H vs Q E hr h => ?_
  obtain ⟨a, ws, bs, e, NS, hne, rfl, hq, hp, ⟨⟨wf, few⟩, hNS, hone⟩, k⟩ := h
  refine ⟨_, (pss_cons (ps_set (i := 1) sc_law_all_lines.nd rfl (Or.inl rfl) (pe_lst pa_nil))
  (pss_cons (ps_for PassesOwn.never rfl (kpi_any (K := K) rfl (pv 0)) (pg_name (i := 2) sc_law_all_lines.nd rfl (Or.inl rfl)) (pss_one (ps_expr (kpe_bm (K := K) rfl PySem.F.plainAttrs_list PySem.F.slot_list_extend PySem.F.type_list_extend (kmt_extend (K := K) rfl) (pv 1) (pa_cons (pe_callF (GL) (hr.mono (by omega)) (by rfl) T.g_law_lines T.k_law_lines (pa_cons (pv 2) pa_nil)) pa_nil)))))
  (pss_one (ps_ret (pv 1))))), ?_⟩
  refine ⟨Nat.zero_le _, fun fl hfl => ?_⟩
  have x1 := Ex.new (H := H) (o := .lst []) hfl
  refine for_any (K := K) (xs := ws) rfl hq x1 (fun i σ' H' => ∃ o2 : Option V, Ex H H' ∧ H' fl = some (.lst (linesOf (allTks (bs.take i)))) ∧ σ' = [some (.ref a), some (.ref fl), o2]) ⟨none, x1, upd_same, rfl⟩ (fun i σ' H' _ ⟨_, z, _⟩ => z) (fun i x σ' H' hx ⟨o2, e1, hf, hσ⟩ => ?_) fun σ' H' ⟨o2, e1, hf, hσ⟩ => ?_
  · subst hσ
    obtain ⟨b, hb⟩ := get_of_len (ys := bs) hx (paired_len hp).symm
    have bm := List.mem_of_getElem? hb
    have cm := cnt_mem bm
    refine ⟨_, rfl, tyL hf, _, rfl, x, b, e, NS, hne, rfl, (paired_get hp hx hb).mono e1, ⟨⟨wf b bm, by omega⟩, hNS, fun h => ?_⟩, fun p H2 hp2 e2 h2 => ?_⟩
    · obtain ⟨rs, rfl⟩ := hone h
      obtain ⟨r, _, rfl⟩ := List.mem_map.mp bm
      exact ⟨r, rfl⟩
    · refine ⟨fl, p, _, _, rfl, rfl, e2 _ _ hf, .inl h2, ?_, _, (e1.trans e2).mut hfl, ?_, rfl⟩
      · rw [linesOf_len, linesOf_len]
        have l1 := allTks_len (bs.take i)
        have l2 := cntS_take bs i
        have l3 := tks_len b
        exact Nat.le_trans (show _ ≤ 100 by omega) (by decide)
      · rw [take_snoc hb, allTks_add, linesOf_app]
        exact upd_same
  · subst hσ
    rw [paired_len hp, List.take_length] at hf
    exact ⟨_, rfl, k fl H' hfl e1 hf⟩
theorem ok_law_linesB (T : Txt w K mg) : ∀ n, FR P w K mg base (2 * n + 6) (a_law_lines K) (sp_law_lines K n) ∧ FR P w K mg base (2 * n + 7) (a_law_all_lines K) (sp_law_all_lines K n)
  | 0 => by
    have h : FR P w K mg base (2 * 0 + 6) (a_law_lines K) (sp_law_lines K 0) := FR.never fun vs H Q ⟨_, _, _, _, h, _⟩ => nomatch h
    exact ⟨h, all_lines_step T 0 h⟩
  | n + 1 => by
    have h := lines_step (P := P) (base := base) T n (ok_law_ask_text T 5) (ok_law_linesB T n).2
    exact ⟨h, all_lines_step T (n + 1) h⟩
def sp_law_program (K : PySem.W.Frag) (NS : List Str) : SP0 := fun vs H Q => ∃ (a : Addr) (ws : List V) (bs : List Lb), vs = [.ref a] ∧ SqL K H a ws ∧ Paired (LbAt K H) ws bs ∧ ((∀ b ∈ bs, b.wf NS) ∧ cntS bs ≤ 4 ∧ (∀ y ∈ NS, isNm y) ∧ NS.length ≤ 20) ∧ ∀ q H', Ex H H' → ProgAt K NS 2 H' q (bs.map Lb.rw) → Q (.ref q) H'
theorem ok_law_program1 (T : Txt w K mg) (GAL : FR P0 w K mg base 11 (a_law_all_lines K) (sp_law_all_lines K 2)) : FR P0 w K mg base (19) (a_law_program K) (sp_law_program K NS) := by
  obtain ⟨fd, F⟩ := T.d_law_program
  refine mkR F sc_law_program (fun _ _ _ _ _ _ us hl => match us, hl with | [_], _ => rfl) (fun vs H Q h => by obtain ⟨a, ws, bs, rfl, hq, hp, ⟨wf, few, hNS, hn⟩, k⟩ := h; rfl) fun cdv A outer s H vs Q E hr h => ?_
  obtain ⟨a, ws, bs, rfl, hq, hp, ⟨wf, few, hNS, hn⟩, k⟩ := h
  refine ⟨_, (pss_one (ps_ret (pe_cmF (K := K) rfl T.x_read (pe_glob (v := .ref _) rfl T.g_Program rfl) (ok_Program_read (K := K) (NS := NS) T) (hr.mono (by omega)) (pa_cons (kpe_join (K := K) rfl pe_str (pe_callF (GAL) (hr.mono (by omega)) (by rfl) T.g_law_all_lines T.k_law_all_lines (pa_cons (pv 0) pa_nil))) pa_nil)))), ?_⟩
  refine ⟨rfl, ⟨_, rfl⟩, _, rfl, a, ws, bs, 1, NS, rfl, rfl, .inl hq, hp, ⟨⟨wf, few⟩, hNS, fun h => absurd h (by decide)⟩, fun p H1 hp1 e1 h1 => ?_⟩
  have tl := allTks_len bs
  have twf : ∀ t ∈ allTks bs, t.wf NS := fun t ht => by
    obtain ⟨b, hb, h⟩ := List.mem_flatMap.mp ht
    exact Lb.tks_wf (wf b hb) t h
  refine ⟨_, p, (allTks bs).map tkLine, rfl, rfl, .inl (sq_of h1), ?_, ?_⟩
  · have s := sum_le (m := 100) (ys := (allTks bs).map tkLine) fun y hy => by
      obtain ⟨t, ht, rfl⟩ := List.mem_map.mp hy
      exact line_len hNS (twf t ht)
    have l2 : (Str.ofString "\n").length = 1 := by decide +kernel
    rw [List.length_map] at s
    rw [l2, List.length_map]
    omega
  · refine ⟨bs, rfl, by omega, ⟨twf, hNS⟩, ⟨fun r hr => ?_, by have := len_cntS bs; omega, hn⟩, fun q H2 e2 z => k q H2 (e1.trans e2) z⟩
    obtain ⟨b, hb, rfl⟩ := List.mem_map.mp hr
    exact Lb.rw_wf (wf b hb) (by have := cnt_mem hb; omega)
theorem ok_law_program (T : Txt w K mg) : FR P0 w K mg base 19 (a_law_program K) (sp_law_program K NS) := ok_law_program1 T (ok_law_linesB T 2).2
end
end E97
set_option Elab.async false
set_option linter.all false
set_option maxRecDepth 100000
set_option maxHeartbeats 4000000
/-! P23: the law's own measures, weak words: bounds alone -/
namespace E97
open PySem PySem.Spec PyProof.Rows L2 Evl NdefX
def sp_lpower : SP0 := fun vs H Q => ∃ n e : Int, vs = [.int n, .int e] ∧ ∀ i H', (1 ≤ i ∧ i ≤ 1000000) → Ex H H' → Q (.int i) H'
def sp_lrest (K : PySem.W.Frag) : SP0 := fun vs H Q => ∃ (a b : Addr) (m1 m2 : M4), vs = [.ref a, .ref b] ∧ (SqT K H a (mV m1) ∧ SqT K H b (mV m2) ∧ m1.ok ∧ m2.ok) ∧ ∀ i H', (1 ≤ i ∧ i ≤ 1000000) → Ex H H' → Q (.int i) H'
def sp_lcommon (K : PySem.W.Frag) : SP0 := fun vs H Q => ∃ (a b : Addr) (m1 m2 : M4), vs = [.ref a, .ref b] ∧ (SqT K H a (mV m1) ∧ SqT K H b (mV m2) ∧ m1.ok ∧ m2.ok) ∧ ∀ i H', (1 ≤ i ∧ i ≤ 10000000000000) → Ex H H' → Q (.int i) H'
def gets : List (Key × V) := [(Sum.inl 1, .int 1), (Sum.inl 2, .int 2), (Sum.inl 3, .int 6), (Sum.inl 4, .int 12), (Sum.inl 5, .int 60), (Sum.inl 6, .int 60)]
theorem gets_val (t : Int) : ∃ i : Int, (valV gets (Sum.inl t : Key)).getD (.int 1000) = .int i ∧ 1 ≤ i ∧ i ≤ 1000000 := by
  by_cases h1 : t = 1
  · subst h1; exact ⟨1, by kernel_rfl, by decide, by decide⟩
  by_cases h2 : t = 2
  · subst h2; exact ⟨2, by kernel_rfl, by decide, by decide⟩
  by_cases h3 : t = 3
  · subst h3; exact ⟨6, by kernel_rfl, by decide, by decide⟩
  by_cases h4 : t = 4
  · subst h4; exact ⟨12, by kernel_rfl, by decide, by decide⟩
  by_cases h5 : t = 5
  · subst h5; exact ⟨60, by kernel_rfl, by decide, by decide⟩
  by_cases h6 : t = 6
  · subst h6; exact ⟨60, by kernel_rfl, by decide, by decide⟩
  refine ⟨1000, ?_, by decide, by decide⟩
  have ne : ∀ {z : Int}, ¬ t = z → ¬ (Sum.inl z : Key) = Sum.inl t := fun h e => h (Sum.inl.inj e).symm
  unfold gets
  rw [valV_neg (ne h1), valV_neg (ne h2), valV_neg (ne h3), valV_neg (ne h4), valV_neg (ne h5), valV_neg (ne h6)]
  rfl
section
variable {P : Program} {w : World} {K : PySem.W.Frag} {mg : Str → Option Value} {base : Heap} {NS : List Str}
theorem ok_law_power (T : Txt w K mg) : FR P w K mg base (1) (a_law_power K) (sp_lpower) := by
  obtain ⟨fd, F⟩ := T.d_law_power
  refine mkR F sc_law_power (fun _ _ _ _ _ _ us hl => match us, hl with | [_, _], _ => rfl) (fun vs H Q h => by obtain ⟨n, e, rfl, k⟩ := h; rfl) fun cdv A outer s H vs Q E hr h => ?_
  obtain ⟨n, e, rfl, k⟩ := h
  refine ⟨_, (pss_cons (ps_asg (pe_tup (pa_cons pe_int (pa_cons pe_int pa_nil))) (kpg_tup (K := K) (n := 2) rfl (by rfl) (pgs_cons (pg_name (i := 2) sc_law_power.nd rfl (Or.inl rfl)) (pgs_cons (pg_name (i := 3) sc_law_power.nd rfl (Or.inl rfl)) pgs_nil))))
  (pss_cons (ps_while PassesOwn.never (PW.pt (pw_and (pt_cmpR op_lt (pv 3) (pv 1) (nomark _)) (pw_and (pt_cmpR op_gt (pv 0) pe_int (nomark _)) (pw_and1 (pt_cmpR op_lt (pv 2) (pe_op op_pow pe_int pe_int) (nomark _)))))) (pss_cons (ps_set (i := 2) sc_law_power.nd rfl (Or.inl rfl) (pe_callB (call_min2 rfl) (by rfl) T.z_min b_min (pa_cons (pe_callTy call_int1 (by rfl) T.z_int b_int (pa_cons (pe_op op_mul (pv 2) (pv 0)) pa_nil)) (pa_cons (pe_op op_pow pe_int pe_int) pa_nil))))
  (pss_one (ps_set (i := 3) sc_law_power.nd rfl (Or.inl rfl) (pe_op op_add (pv 3) pe_int)))))
  (pss_one (ps_ret (pv 2))))), ?_⟩
  have p6 : (10 : Int) ^ (6 : Int).toNat = 1000000 := by decide
  refine ⟨by show 2 ≤ sizeLine; decide, fun p hp => ⟨p, _, rfl, SqT.of upd_same, rfl, _, _, rfl, _, _, rfl, rfl, ?_⟩⟩
  refine ⟨fun m σ H' => Ex H H' ∧ ∃ f t : Int, σ = [some (.int n), some (.int e), some (.int f), some (.int t)] ∧ m = (e - t).toNat ∧ 1 ≤ f ∧ f ≤ 1000000,
    ⟨_, Ex.new hp, 1, 0, rfl, rfl, by omega, by omega⟩, ?_⟩
  rintro m σ H' ⟨e1, f, t, rfl, rfl, h1, h2⟩
  refine ⟨_, rfl, _, rfl, _, _, rfl, rfl, _, rfl, iteD (fun c1 => ?_) fun _ => if_neg_ (by decide) ⟨_, rfl, k f H' ⟨h1, h2⟩ e1⟩⟩
  refine ⟨_, rfl, _, _, rfl, rfl, _, rfl, iteD (fun c2 => ?_) fun _ => if_neg_ (by decide) ⟨_, rfl, k f H' ⟨h1, h2⟩ e1⟩⟩
  refine ⟨_, rfl, _, _, rfl, rfl, ⟨by decide, by decide, by decide⟩, _, _, rfl, rfl, _, rfl, iteD (fun c3 => ?_) fun _ => ⟨_, rfl, k f H' ⟨h1, h2⟩ e1⟩⟩
  refine ⟨fun σ' H'' => Ex H H'' ∧ ∃ f' : Int, σ' = [some (.int n), some (.int e), some (.int f'), some (.int (t + 1))] ∧ 1 ≤ f' ∧ f' ≤ 1000000, ?_, ?_⟩
  · rintro σ' H'' ⟨e3, f', rfl, g1, g2⟩
    exact ⟨_, by omega, e3, f', t + 1, rfl, rfl, g1, g2⟩
  · refine ⟨_, rfl, _, rfl, _, _, rfl, rfl, .inl ⟨by omega, by omega⟩, .inl ⟨_, rfl, _, _, rfl, rfl, ⟨by decide, by decide, by decide⟩, _, _, rfl, ?_⟩⟩
    refine ⟨_, rfl, _, _, rfl, rfl, e1, _, rfl, ?_, ?_⟩
    · rw [p6]
      have := mul1 h1 (show 1 ≤ n by omega)
      split <;> omega
    · rw [p6]
      split <;> omega
/-- {..}.get(t, 1000) -/
theorem ok_law_rest_more (T : Txt w K mg) : FR P w K mg base (2) (a_law_rest_more K) (sp_lrest K) := by
  obtain ⟨fd, F⟩ := T.d_law_rest_more
  refine mkR F sc_law_rest_more (fun _ _ _ _ _ _ us hl => match us, hl with | [_, _], _ => rfl) (fun vs H Q h => by obtain ⟨a, b, m1, m2, rfl, ⟨h1, h2, o1, o2⟩, k⟩ := h; rfl) fun cdv A outer s H vs Q E hr h => ?_
  obtain ⟨a, b, m1, m2, rfl, ⟨h1, h2, o1, o2⟩, k⟩ := h
  refine ⟨_, (pss_cons (ps_if (pt_cmpR op_eq (pe_ix (kix_tup (K := K) rfl) (pv 1) pe_int (fun _ _ => rfl)) pe_int (nomark _)) (pss_one (ps_ret (pe_ifExp (pt_val (pe_ix (kix_tup (K := K) rfl) (pv 1) pe_int (fun _ _ => rfl))) (pe_ix (kix_tup (K := K) rfl) (pv 1) pe_int (fun _ _ => rfl)) (pe_dget2 (hu_of hr) (pe_disp (pps_cons pe_int pe_int (pps_cons pe_int pe_int (pps_cons pe_int pe_int (pps_cons pe_int pe_int (pps_cons pe_int pe_int (pps_cons pe_int pe_int pps_nil)))))) (by rfl) (by rfl) (fun z => by cases z) (by decide)) (pe_ix (kix_tup (K := K) rfl) (pv 1) pe_int (fun _ _ => rfl)) pe_int (by exact ⟨by rfl, by rfl, by rfl, by rfl⟩))))) pss_nil)
  (pss_one (ps_ret (pe_ifExp (pt_val (pe_ix (kix_tup (K := K) rfl) (pv 1) pe_int (fun _ _ => rfl))) (pe_callF (ok_law_power (K := K) T) (hr.mono (by omega)) (by rfl) T.g_law_power T.k_law_power (pa_cons (pe_ix (kix_tup (K := K) rfl) (pv 1) pe_int (fun _ _ => rfl)) (pa_cons (pe_ix (kix_tup (K := K) rfl) (pv 0) pe_int (fun _ _ => rfl)) pa_nil))) pe_int)))), ?_⟩
  obtain ⟨n, s', st, sr⟩ := m1
  obtain ⟨m', t, tt, tr⟩ := m2
  obtain ⟨⟨b1, b2⟩, b3, b4⟩ := o2
  dsimp only at b1 b2 b3 b4
  refine ⟨_, rfl, _, _, _, _, rfl, rfl, h2, at0, rfl, _, rfl, iteI (fun _ => ?_) fun _ => ?_⟩
  · refine ⟨_, rfl, _, _, _, _, rfl, rfl, h2, atI_nat (j := 2) rfl, tt, rfl, ?_⟩
    cases tt with
    | true => exact ⟨_, rfl, _, _, _, _, rfl, rfl, h2, at1, k t H ⟨b3, b4⟩ (Ex.refl H)⟩
    | false =>
      intro d hd
      have x1 := Ex.new (H := H) (o := .dK []) hd
      have e1 : Ex H (upd (upd H d (.dK [])) d (.dK (mergeK [] gets))) := x1.mut hd
      have g1 : (upd (upd H d (.dK [])) d (.dK (mergeK [] gets))) d = some (.dK gets) := upd_same.trans (by kernel_rfl)
      refine ⟨upd_same, gets, rfl, (show 6 ≤ 15 by decide), d, rfl, .inl ⟨_, .inl upd_same⟩, _, rfl, _, _, _, _, rfl, rfl, ex_t e1 h2, at1, _, DGet.k (k := Sum.inl t) g1, ?_⟩
      obtain ⟨i, e, hi⟩ := gets_val t
      rw [e]
      exact k i _ hi e1
  · refine ⟨_, rfl, _, _, _, _, rfl, rfl, h2, atI_nat (j := 2) rfl, tt, rfl, ?_⟩
    cases tt with
    | true => exact ⟨_, rfl, _, _, _, _, rfl, rfl, h2, at1, _, rfl, _, _, _, _, rfl, rfl, h1, at0, t, n, rfl, fun i H' hi e => k i H' hi e⟩
    | false => exact k 1000 H ⟨by decide, by decide⟩ (Ex.refl H)
theorem ok_law_common_more (T : Txt w K mg) : FR P w K mg base (1) (a_law_common_more K) (sp_lcommon K) := by
  obtain ⟨fd, F⟩ := T.d_law_common_more
  refine mkR F sc_law_common_more (fun _ _ _ _ _ _ us hl => match us, hl with | [_, _], _ => rfl) (fun vs H Q h => by obtain ⟨a, b, m1, m2, rfl, ⟨h1, h2, o1, o2⟩, k⟩ := h; rfl) fun cdv A outer s H vs Q E hr h => ?_
  obtain ⟨a, b, m1, m2, rfl, ⟨h1, h2, o1, o2⟩, k⟩ := h
  refine ⟨_, (pss_cons (ps_if (PW.pt (pw_and (pt_cmpR op_eq (pe_ix (kix_tup (K := K) rfl) (pv 0) pe_int (fun _ _ => rfl)) pe_int (nomark _)) (pw_and1 (pt_cmpR op_eq (pe_ix (kix_tup (K := K) rfl) (pv 1) pe_int (fun _ _ => rfl)) pe_int (nomark _))))) (pss_one (ps_ret pe_int)) pss_nil)
  (pss_cons (ps_if (PW.pt (pw_or (pt_cmpR op_eq (pe_ix (kix_tup (K := K) rfl) (pv 0) pe_int (fun _ _ => rfl)) pe_int (nomark _)) (pw_or1 (pt_cmpR op_eq (pe_ix (kix_tup (K := K) rfl) (pv 1) pe_int (fun _ _ => rfl)) pe_int (nomark _))))) (pss_cons (ps_set (i := 2) sc_law_common_more.nd rfl (Or.inl rfl) (pe_ifExp (pt_cmpR op_eq (pe_ix (kix_tup (K := K) rfl) (pv 0) pe_int (fun _ _ => rfl)) pe_int (nomark _)) (pv 0) (pv 1)))
  (pss_one (ps_ret (pe_ifExp (pt_val (pe_ix (kix_tup (K := K) rfl) (pv 2) pe_int (fun _ _ => rfl))) (pe_ix (kix_tup (K := K) rfl) (pv 2) pe_int (fun _ _ => rfl)) (pe_dget2 (hu_of hr) (pe_disp (pps_cons pe_int pe_int (pps_cons pe_int pe_int (pps_cons pe_int pe_int (pps_cons pe_int pe_int (pps_cons pe_int pe_int (pps_cons pe_int pe_int pps_nil)))))) (by rfl) (by rfl) (fun z => by cases z) (by decide)) (pe_ix (kix_tup (K := K) rfl) (pv 2) pe_int (fun _ _ => rfl)) pe_int (by exact ⟨by rfl, by rfl, by rfl, by rfl⟩)))))) pss_nil)
  (pss_cons (ps_if (PW.pt (pw_and (pt_cmpR op_eq (pe_ix (kix_tup (K := K) rfl) (pv 0) pe_int (fun _ _ => rfl)) pe_int (nomark _)) (pw_and (pt_cmpR op_eq (pe_ix (kix_tup (K := K) rfl) (pv 1) pe_int (fun _ _ => rfl)) pe_int (nomark _)) (pw_and1 (pt_cmpR (kop_eqD (K := K) rfl hr.units) (pe_op (kop_catA (K := K) rfl) (pe_slice (ksl_tup (K := K) rfl) (pv 0) (po_some pe_int) po_none) (pe_slice (ksl_tup (K := K) rfl) (pv 1) (po_some pe_int) po_none)) (pe_op (kop_repT (K := K) rfl) (pe_tup (pa_cons pe_bl pa_nil)) pe_int) (nomark _)))))) (pss_one (ps_ret (pe_op op_mul (pe_op op_mul pe_int (pe_ix (kix_tup (K := K) rfl) (pv 0) pe_int (fun _ _ => rfl))) (pe_ix (kix_tup (K := K) rfl) (pv 1) pe_int (fun _ _ => rfl))))) pss_nil)
  (pss_one (ps_ret pe_int))))), ?_⟩
  obtain ⟨n, s', st, sr⟩ := m1
  obtain ⟨m', t, tt, tr⟩ := m2
  obtain ⟨⟨b1, b2⟩, b3, b4⟩ := o2
  obtain ⟨⟨c1, c2⟩, c3, c4⟩ := o1
  dsimp only at b1 b2 b3 b4 c1 c2 c3 c4
  have ix : ∀ {z : Nat} {aa : Addr} {xs : List V} {j : Int} {v : V} {o : Option V} (H1 : Hp), Ex H H1 → ([some (.ref a), some (.ref b), o] : L2.St)[z]? = some (some (.ref aa)) → SqT K H aa xs → atI xs j = some v → Ev (tOp (rIxT K) (tVar z) (tC (.int j))) [some (.ref a), some (.ref b), o] H1 v := fun H1 e hz ht hv => ev_op (ev_var hz) ev_c (rv_ixT (ex_t e ht) hv)
  refine q_when (et_and (et_test (ev_op (ix H (Ex.refl H) rfl h1 at0) ev_c (rv_eq rfl))) fun _ => et_test (ev_op (ix H (Ex.refl H) rfl h2 at0) ev_c (rv_eq rfl))) (fun _ H1 e1 => k 1 H1 ⟨by decide, by decide⟩ e1) fun _ H1 e1 => ?_
  refine q_when (et_or (et_test (ev_op (ix H1 e1 rfl h1 at0) ev_c (rv_eq rfl))) fun _ => et_test (ev_op (ix H1 e1 rfl h2 at0) ev_c (rv_eq rfl))) (fun _ H2 e2 => ?_) fun _ H2 e2 => ?_
  · have e12 := e1.trans e2
    obtain ⟨aa, mm, ha, ⟨⟨d1, d2⟩, d3, d4⟩, hc⟩ : ∃ (aa : Addr) (mm : M4), SqT K H aa (mV mm) ∧ mm.ok ∧ ((n = 1 → aa = a) ∧ (¬ n = 1 → aa = b)) := by
      by_cases c : n = 1
      · exact ⟨a, _, h1, ⟨⟨c1, c2⟩, c3, c4⟩, fun _ => rfl, fun z => absurd c z⟩
      · exact ⟨b, _, h2, ⟨⟨b1, b2⟩, b3, b4⟩, fun z => absurd z c, fun _ => rfl⟩
    refine q_asg (v := .ref aa) (ev_if (et_test (ev_op (ix H2 e12 rfl h1 at0) ev_c (rv_eq rfl))) (fun h => ?_) fun h => ?_) fun H3 e3 => ?_
    · have h := of_decide_eq_true h
      rw [hc.1 (V.int.inj h)]
      exact ev_var rfl
    · have h := of_decide_eq_false h
      rw [hc.2 fun z => h (by rw [z])]
      exact ev_var rfl
    · have e13 := e12.trans e3
      obtain ⟨n3, t3, tt3, tr3⟩ := mm
      dsimp only at d1 d2 d3 d4
      refine ⟨_, rfl, _, _, _, _, rfl, rfl, ex_t e13 ha, atI_nat (j := 2) rfl, tt3, rfl, ?_⟩
      cases tt3 with
      | true => exact ⟨_, rfl, _, _, _, _, rfl, rfl, ex_t e13 ha, at1, k t3 H3 ⟨d3, by omega⟩ e13⟩
      | false =>
        intro d hd
        have x1 := Ex.new (H := H3) (o := .dK []) hd
        have f1 : Ex H3 (upd (upd H3 d (.dK [])) d (.dK (mergeK [] gets))) := x1.mut hd
        have g1 : (upd (upd H3 d (.dK [])) d (.dK (mergeK [] gets))) d = some (.dK gets) := upd_same.trans (by kernel_rfl)
        refine ⟨upd_same, gets, rfl, (show 6 ≤ 15 by decide), d, rfl, .inl ⟨_, .inl upd_same⟩, _, rfl, _, _, _, _, rfl, rfl, ex_t (e13.trans f1) ha, at1, _, DGet.k (k := Sum.inl t3) g1, ?_⟩
        obtain ⟨i, e, hi⟩ := gets_val t3
        rw [e]
        exact k i _ ⟨hi.1, by omega⟩ (e13.trans f1)
  · have e12 := e1.trans e2
    have last := k 1000 H2 ⟨by decide, by decide⟩ e12
    refine ⟨_, rfl, _, _, _, _, rfl, rfl, ex_t e12 h1, at0, rfl, _, rfl, iteI (fun _ => ?_) fun _ => if_neg_ (by decide) last⟩
    refine ⟨_, rfl, _, _, _, _, rfl, rfl, ex_t e12 h2, at0, rfl, _, rfl, iteI (fun _ => ?_) fun _ => if_neg_ (by decide) last⟩
    have cut1 : cutV (mV (n, s', st, sr)) (some 2) none = [.bl st, .bl sr] := rfl
    have cut2 : cutV (mV (m', t, tt, tr)) (some 2) none = [.bl tt, .bl tr] := rfl
    refine ⟨_, rfl, 2, rfl, a, _, rfl, ex_t e12 h1, (fun z => absurd z (show ¬ (HT.sIx 4 0 (some 2) = 0 ∧ HT.sIx 4 4 none = 4) by decide)), fun _ q hq => ?_⟩
    rw [cut1]
    have x3 := Ex.new (H := H2) (o := .tup [V.bl st, V.bl sr]) hq
    refine ⟨_, rfl, 2, rfl, b, _, rfl, ex_t (e12.trans x3) h2, (fun z => absurd z (show ¬ (HT.sIx 4 0 (some 2) = 0 ∧ HT.sIx 4 4 none = 4) by decide)), fun _ q2 hq2 => ?_⟩
    rw [cut2]
    have x4 := Ex.new (o := .tup [V.bl tt, V.bl tr]) hq2
    refine ⟨q, q2, _, _, rfl, rfl, ex_t x4 (SqT.of upd_same), SqT.of upd_same, (show 4 ≤ sizeLine by decide), (fun z => nomatch z), (fun _ z => nomatch z), fun _ _ p hp => ?_⟩
    have x5 := Ex.new (o := .tup ([V.bl st, V.bl sr] ++ [V.bl tt, V.bl tr])) hp
    refine ⟨(show 1 ≤ sizeLine by decide), fun u hu => ?_⟩
    have x6 := Ex.new (o := .tup [V.bl true]) hu
    refine ⟨u, 4, _, rfl, rfl, SqT.of upd_same, (fun z => nomatch z), by decide, by decide, (show 1 ≤ 1000 by decide), fun r hr => ?_⟩
    have x7 := Ex.new (o := .tup (List.replicate (4 : Int).toNat [V.bl true]).flatten) hr
    have e17 := e12.trans (x3.trans (x4.trans (x5.trans (x6.trans x7))))
    refine ⟨.tuple [.bool st, .bool sr, .bool tt, .bool tr], .tuple [.bool true, .bool true, .bool true, .bool true], .tup (ex_t (x6.trans x7) (SqT.of upd_same)) (.cons (.bl _) (.cons (.bl _) (.cons (.bl _) (.cons (.bl _) .nil)))), .tup (SqT.of upd_same) (.cons (.bl _) (.cons (.bl _) (.cons (.bl _) (.cons (.bl _) .nil)))), rfl, rfl, _, rfl, ite_both ?_ ?_⟩
    · refine ⟨_, rfl, _, _, _, _, rfl, rfl, ex_t e17 h1, at1, _, _, rfl, rfl, .inl ⟨by decide, by decide⟩, _, rfl, _, _, _, _, rfl, rfl, ex_t e17 h2, at1, _, _, rfl, rfl, (.inr ⟨show -(2 ^ 64) < t by omega, show t < 2 ^ 64 by omega⟩), k (2 * s' * t) _ ⟨?_, ?_⟩ e17⟩
      · exact mul1 (by omega) b3
      · have f2 := Int.mul_le_mul (show 2 * s' ≤ 2000000 by omega) b4 (by omega) (by decide)
        omega
    · exact k 1000 _ ⟨by decide, by decide⟩ e17
end
end E97
set_option Elab.async false
set_option linter.all false
set_option maxRecDepth 100000
set_option maxHeartbeats 4000000
/-! P24: the law's own measures: a deed, a row -/
namespace E97
open PySem PySem.Spec PyProof.Rows L2 Evl NdefX
def Tri (K : PySem.W.Frag) (H : Hp) (Q : VK) : Prop := ∀ p x y z H', (1 ≤ x ∧ 1 ≤ y ∧ 1 ≤ z) → Ex H H' → SqT K H' p [.int x, .int y, .int z] → Q (.ref p) H'
theorem Tri.go {K : PySem.W.Frag} {H H1 : Hp} {Q : VK} (k : Tri K H Q) (e : Ex H H1) {x y z : Int} (hx : 1 ≤ x) (hy : 1 ≤ y) (hz : 1 ≤ z) : ∀ q, H1 q = none → Q (.ref q) (upd H1 q (.tup [.int x, .int y, .int z])) := fun q hq => k q x y z _ ⟨hx, hy, hz⟩ (e.trans (Ex.new hq)) (SqT.of upd_same)
theorem sz3 : 3 ≤ sizeLine := by decide
theorem inL {d : Str} {l : List Str} (c : inV (.str d) (l.map V.str) = true) : d ∈ l := of_decide_eq_true ((inV_mem d l).symm.trans c)
theorem niL {d : Str} {l : List Str} (c : inV (.str d) (l.map V.str) = false) : ¬ d ∈ l := of_decide_eq_false ((inV_mem d l).symm.trans c)
theorem Tri.mono {K : PySem.W.Frag} {H H1 : Hp} {Q : VK} (k : Tri K H Q) (e : Ex H H1) : Tri K H1 Q := fun p x y z H' h e' s => k p x y z H' h (e.trans e') s
theorem one_name {NS : List Str} {g : PutG} (wf : g.wf NS) (h1 : ¬ g.deed = "figures") (h2 : ¬ g.deed ∈ (["number", "base"] : List Str)) (h3 : ¬ g.names.length = 2) : g.names.length = 1 := by
  cases g with
  | figs ks => exact absurd rfl h1
  | num k => exact absurd (show (Str.ofString "number") ∈ (["number", "base"] : List Str) by decide +kernel) h2
  | base => exact absurd (show (Str.ofString "base") ∈ (["number", "base"] : List Str) by decide +kernel) h2
  | pow x k => rfl
  | one d x => rfl
  | kone d k x => rfl
  | two d x y => exact absurd rfl h3
theorem paired1 {α β : Type} {R : α → β → Prop} {xs : List α} {ys : List β} (h : Paired R xs ys) (hl : ys.length = 1) : ∃ x y, xs = [x] ∧ R x y := by
  cases h with
  | nil => cases hl
  | cons r t =>
    cases t with
    | nil => exact ⟨_, _, rfl, r⟩
    | cons r t => cases hl
theorem paired2 {α β : Type} {R : α → β → Prop} {xs : List α} {ys : List β} (h : Paired R xs ys) (hl : ys.length = 2) : ∃ x x' y y', xs = [x, x'] ∧ R x y ∧ R x' y' := by
  cases h with
  | nil => cases hl
  | cons r t =>
    obtain ⟨x', y', rfl, r'⟩ := paired1 t (Nat.succ.inj hl)
    exact ⟨_, _, _, _, rfl, r, r'⟩
def sp_ltwo (K : PySem.W.Frag) : SP0 := fun vs H Q => ∃ (dd : Str) (a b : Addr) (m1 m2 : M4) (wh : Int), vs = [.str dd, .ref a, .ref b, .int wh] ∧ (SqT K H a (mV m1) ∧ SqT K H b (mV m2) ∧ m1.ok ∧ m2.ok) ∧ (1 ≤ wh ∧ wh ≤ 1000000) ∧ Tri K H Q
def sp_lmeasured (K : PySem.W.Frag) : SP0 := fun vs H Q => ∃ (r tl : Addr) (wh : Int) (x : Str) (g : PutG) (NS : List Str) (ts : List Addr), vs = [.ref r, .ref tl, .int wh] ∧ PutAt K H (.ref r) x g ∧ g.wf NS ∧ (H tl = some (.lst (ts.map V.ref)) ∧ Paired (fun t (_ : Str) => ∃ m : M4, SqT K H t (mV m) ∧ m.ok) ts g.names) ∧ (1 ≤ wh ∧ wh ≤ 1000000) ∧ Tri K H Q
section
variable {P : Program} {w : World} {K : PySem.W.Frag} {mg : Str → Option Value} {base : Heap} {NS : List Str}
theorem ok_law_more (T : Txt w K mg) : FR P w K mg base (1) (a_law_more K) (sp_greater) := by
  obtain ⟨fd, F⟩ := T.d_law_more
  refine mkR F sc_law_more (fun _ _ _ _ _ _ us hl => match us, hl with | [_, _], _ => rfl) (fun vs H Q h => by obtain ⟨i, j, rfl, k⟩ := h; rfl) fun cdv A outer s H vs Q E hr h => ?_
  obtain ⟨i, j, rfl, k⟩ := h
  refine ⟨_, (pss_one (ps_ret (pe_ifExp (pt_cmpR op_gt (pv 0) (pv 1) (nomark _)) (pv 0) (pv 1)))), ?_⟩
  refine ⟨_, rfl, _, rfl, _, _, rfl, rfl, _, rfl, ?_⟩
  refine iteD (fun c => ?_) (fun c => ?_)
  · refine ⟨_, rfl, ?_⟩
    rw [gr, if_pos c] at k
    exact k
  · refine ⟨_, rfl, ?_⟩
    rw [gr, if_neg c] at k
    exact k
theorem ok_law_two_measured (T : Txt w K mg) : FR P w K mg base (3) (a_law_two_measured K) (sp_ltwo K) := by
  obtain ⟨fd, F⟩ := T.d_law_two_measured
  refine mkR F sc_law_two_measured (fun _ _ _ _ _ _ us hl => match us, hl with | [_, _, _, _], _ => rfl) (fun vs H Q h => by obtain ⟨dd, a, b, m1, m2, wh, rfl, ⟨h1, h2, o1, o2⟩, ⟨w1, w2⟩, k⟩ := h; rfl) fun cdv A outer s H vs Q E hr h => ?_
  obtain ⟨dd, a, b, m1, m2, wh, rfl, ⟨h1, h2, o1, o2⟩, ⟨w1, w2⟩, k⟩ := h
  refine ⟨_, (pss_cons (ps_asg (pe_tup (pa_cons (pe_ix (kix_tup (K := K) rfl) (pv 1) pe_int (fun _ _ => rfl)) (pa_cons (pe_ix (kix_tup (K := K) rfl) (pv 1) pe_int (fun _ _ => rfl)) (pa_cons (pe_ix (kix_tup (K := K) rfl) (pv 2) pe_int (fun _ _ => rfl)) (pa_cons (pe_ix (kix_tup (K := K) rfl) (pv 2) pe_int (fun _ _ => rfl)) pa_nil))))) (kpg_tup (K := K) (n := 4) rfl (by rfl) (pgs_cons (pg_name (i := 4) sc_law_two_measured.nd rfl (Or.inl rfl)) (pgs_cons (pg_name (i := 5) sc_law_two_measured.nd rfl (Or.inl rfl)) (pgs_cons (pg_name (i := 6) sc_law_two_measured.nd rfl (Or.inl rfl)) (pgs_cons (pg_name (i := 7) sc_law_two_measured.nd rfl (Or.inl rfl)) pgs_nil))))))
  (pss_cons (ps_if (pt_cmpR (kop_in (K := K) rfl) (pv 0) (pe_tup (pa_cons pe_str (pa_cons pe_str pa_nil))) (by rfl)) (pss_cons (ps_set (i := 8) sc_law_two_measured.nd rfl (Or.inl rfl) (pe_callF (ok_law_rest_more (K := K) T) (hr.mono (by omega)) (by rfl) T.g_law_rest_more T.k_law_rest_more (pa_cons (pv 1) (pa_cons (pv 2) pa_nil))))
  (pss_cons (ps_if (pt_cmpR op_eq (pv 0) pe_str (nomark _)) (pss_one (ps_ret (pe_tup (pa_cons (pv 4) (pa_cons (pe_ifExp (pt_cmpR op_eq (pv 6) pe_int (nomark _)) (pe_op op_add (pv 5) pe_int) (pe_op op_add (pe_op op_mul (pv 5) (pv 8)) pe_int)) (pa_cons (pv 8) pa_nil)))))) pss_nil)
  (pss_one (ps_ret (pe_ifExp (pt_cmpR op_eq (pv 6) pe_int (nomark _)) (pe_tup (pa_cons pe_int (pa_cons (pv 7) (pa_cons (pv 8) pa_nil)))) (pe_tup (pa_cons (pv 6) (pa_cons (pe_op op_add (pe_op op_mul (pv 7) (pe_op op_add (pe_op op_mul (pv 5) (pv 8)) pe_int)) (pv 5)) (pa_cons (pv 8) pa_nil))))))))) pss_nil)
  (pss_cons (ps_if (pt_cmpR op_eq (pv 0) pe_str (nomark _)) (pss_one (ps_ret (pe_tup (pa_cons (pe_op op_sub (pe_op op_add (pv 4) (pv 6)) pe_int) (pa_cons (pe_op op_mul (pv 5) (pv 7)) (pa_cons (pe_ifExp (PW.pt (pw_or (pt_val (pe_ix (kix_tup (K := K) rfl) (pv 1) pe_int (fun _ _ => rfl))) (pw_or1 (pt_val (pe_ix (kix_tup (K := K) rfl) (pv 2) pe_int (fun _ _ => rfl)))))) pe_int (pv 3)) pa_nil)))))) pss_nil)
  (pss_cons (ps_if (pt_cmpR op_eq (pv 0) pe_str (nomark _)) (pss_one (ps_ret (pe_tup (pa_cons (pe_op op_add (pv 4) (pv 6)) (pa_cons (pe_op op_add (pv 5) (pv 7)) (pa_cons pe_int pa_nil)))))) pss_nil)
  (pss_cons (ps_set (i := 8) sc_law_two_measured.nd rfl (Or.inl rfl) (pe_ifExp (pt_cmpR op_eq (pv 0) pe_str (nomark _)) (pe_callF (ok_law_common_more (K := K) T) (hr.mono (by omega)) (by rfl) T.g_law_common_more T.k_law_common_more (pa_cons (pv 1) (pa_cons (pv 2) pa_nil))) pe_int))
  (pss_one (ps_ret (pe_tup (pa_cons (pe_callF (ok_law_more (K := K) T) (hr.mono (by omega)) (by rfl) T.g_law_more T.k_law_more (pa_cons (pv 4) (pa_cons (pv 6) pa_nil))) (pa_cons (pe_ifExp (pt_cmpR (kop_in (K := K) rfl) (pv 0) (pe_tup (pa_cons pe_str (pa_cons pe_str pa_nil))) (by rfl)) (pe_op op_add (pv 5) (pv 7)) (pe_callF (ok_law_more (K := K) T) (hr.mono (by omega)) (by rfl) T.g_law_more T.k_law_more (pa_cons (pv 5) (pa_cons (pv 7) pa_nil)))) (pa_cons (pv 8) pa_nil))))))))))), ?_⟩
  obtain ⟨n, s', st, sr⟩ := m1
  obtain ⟨m', t, tt, tr⟩ := m2
  have o1' := o1
  have o2' := o2
  obtain ⟨⟨a1, a2⟩, a3, a4⟩ := o1'
  obtain ⟨⟨b1, b2⟩, b3, b4⟩ := o2'
  dsimp only at a1 a2 a3 a4 b1 b2 b3 b4
  have gn := gr_l n m'
  have gs := gr_l s' t
  refine ⟨_, rfl, _, _, _, _, rfl, rfl, h1, at0, _, rfl, _, _, _, _, rfl, rfl, h1, at1, _, rfl, _, _, _, _, rfl, rfl, h2, at0, _, rfl, _, _, _, _, rfl, rfl, h2, at1, (show 4 ≤ sizeLine by decide), fun u hu => ?_⟩
  refine ⟨u, _, rfl, SqT.of upd_same, rfl, _, _, rfl, _, _, rfl, _, _, rfl, _, _, rfl, rfl, ?_⟩
  have e1 := Ex.new (o := .tup [V.int n, V.int s', V.int m', V.int t]) hu
  refine q_when (inC [V.str "//", V.str "rest"] rfl) (fun c H1 x1 => ?_) (fun c H1 x1 => ?_)
  · have e2 := e1.trans x1
    refine ⟨_, rfl, _, rfl, a, b, _, _, rfl, ⟨ex_t e2 h1, ex_t e2 h2, o1, o2⟩, fun mo H2 hmo x2 => ?_⟩
    have e3 := e2.trans x2
    have p1 := mul1 a3 hmo.1
    have p2 := mul1 b3 (show 1 ≤ s' * mo + 1 by omega)
    refine ⟨_, rfl, rfl, _, rfl, iteS (fun _ => ?_) fun _ => ?_⟩
    · refine ⟨_, rfl, _, rfl, rfl, _, rfl, iteI (fun _ => ?_) fun _ => ?_⟩
      · exact ⟨_, rfl, _, _, rfl, rfl, _, rfl, sz3, k.go e3 a1 (by dsimp only; omega) hmo.1⟩
      · exact ⟨_, rfl, _, rfl, _, _, rfl, rfl, (.inl ⟨show -(2 ^ 64) < s' by omega, show s' < 2 ^ 64 by omega⟩), _, _, rfl, rfl, _, rfl, sz3, k.go e3 a1 (by dsimp only; omega) hmo.1⟩
    · refine ⟨_, rfl, rfl, _, rfl, iteI (fun _ => ?_) fun _ => ?_⟩
      · exact ⟨_, rfl, _, rfl, sz3, k.go e3 (by decide) b3 hmo.1⟩
      · exact ⟨_, rfl, _, rfl, _, rfl, _, rfl, _, _, rfl, rfl, (.inl ⟨show -(2 ^ 64) < s' by omega, show s' < 2 ^ 64 by omega⟩), _, _, rfl, rfl, _, _, rfl, rfl, (.inl ⟨show -(2 ^ 64) < t by omega, show t < 2 ^ 64 by omega⟩), _, rfl, _, _, rfl, rfl, _, rfl, sz3, k.go e3 b1 (by dsimp only; omega) hmo.1⟩
  have e2 := e1.trans x1
  refine ⟨_, rfl, rfl, _, rfl, iteS (fun _ => ?_) fun _ => ?_⟩
  · have p1 := mul1 a3 b3
    refine ⟨_, rfl, _, rfl, _, _, rfl, rfl, _, _, rfl, rfl, _, rfl, _, rfl, _, _, rfl, rfl, (.inl ⟨show -(2 ^ 64) < s' by omega, show s' < 2 ^ 64 by omega⟩), _, rfl, _, _, _, _, rfl, rfl, ex_t e2 h1, atI_nat (j := 2) rfl, st, rfl, ?_⟩
    cases st with
    | true => exact ⟨sz3, k.go e2 (by dsimp only; omega) p1 (by decide)⟩
    | false =>
      refine ⟨_, rfl, _, _, _, _, rfl, rfl, ex_t e2 h2, atI_nat (j := 2) rfl, tt, rfl, ?_⟩
      cases tt with
      | true => exact ⟨sz3, k.go e2 (by dsimp only; omega) p1 (by decide)⟩
      | false => exact ⟨_, rfl, sz3, k.go e2 (by dsimp only; omega) p1 w1⟩
  refine ⟨_, rfl, rfl, _, rfl, iteS (fun _ => ?_) fun _ => ?_⟩
  · exact ⟨_, rfl, _, rfl, _, _, rfl, rfl, _, rfl, _, rfl, _, _, rfl, rfl, sz3, k.go e2 (by dsimp only; omega) (by dsimp only; omega) (by decide)⟩
  refine ⟨_, rfl, rfl, _, rfl, iteS (fun _ => ?_) fun _ => ?_⟩
  · refine ⟨_, rfl, _, rfl, a, b, _, _, rfl, ⟨ex_t e2 h1, ex_t e2 h2, o1, o2⟩, fun mo H2 hmo x2 => ?_⟩
    have e3 := e2.trans x2
    have hmo := hmo.1
    refine ⟨_, rfl, _, rfl, _, _, rfl, _, rfl, sz2, fun q hq => ?_⟩
    have x4 := Ex.new (H := H2) (o := .tup [V.str "+", V.str "-"]) hq
    have e4 := e3.trans x4
    refine ⟨q, _, rfl, .inr (SqT.of upd_same), rfl, rfl, _, rfl, ite_both ?_ ?_⟩
    · exact ⟨_, rfl, _, rfl, _, _, rfl, rfl, _, rfl, sz3, k.go e4 (Int.le_trans a1 (gr_l _ _)) (by dsimp only; omega) hmo⟩
    · exact ⟨_, rfl, _, rfl, _, _, rfl, _, rfl, sz3, k.go e4 (Int.le_trans a1 (gr_l _ _)) (Int.le_trans a3 (gr_l _ _)) hmo⟩
  · have e3 := e2
    have hmo : (1 : Int) ≤ 1 := by decide
    generalize H1 = H2 at e3
    refine ⟨_, rfl, _, rfl, _, _, rfl, _, rfl, sz2, fun q hq => ?_⟩
    have x4 := Ex.new (H := H2) (o := .tup [V.str "+", V.str "-"]) hq
    have e4 := e3.trans x4
    refine ⟨q, _, rfl, .inr (SqT.of upd_same), rfl, rfl, _, rfl, ite_both ?_ ?_⟩
    · exact ⟨_, rfl, _, rfl, _, _, rfl, rfl, _, rfl, sz3, k.go e4 (Int.le_trans a1 (gr_l _ _)) (by dsimp only; omega) hmo⟩
    · exact ⟨_, rfl, _, rfl, _, _, rfl, _, rfl, sz3, k.go e4 (Int.le_trans a1 (gr_l _ _)) (Int.le_trans a3 (gr_l _ _)) hmo⟩
theorem ok_law_measured (T : Txt w K mg) : FR P w K mg base (4) (a_law_measured K) (sp_lmeasured K) := by
  obtain ⟨fd, F⟩ := T.d_law_measured
  refine mkR F sc_law_measured (fun _ _ _ _ _ _ us hl => match us, hl with | [_, _, _], _ => rfl) (fun vs H Q h => by obtain ⟨r, tl, wh, x, g, NS, ts, rfl, hp, wf, ⟨htl, hts⟩, ⟨w1, w2⟩, k⟩ := h; rfl) fun cdv A outer s H vs Q E hr h => ?_
  obtain ⟨r, tl, wh, x, g, NS, ts, rfl, hp, wf, ⟨htl, hts⟩, ⟨w1, w2⟩, k⟩ := h
  refine ⟨_, (pss_cons (ps_par (i := 3) (j := 4) (by rfl) sc_law_measured.nd rfl rfl (by decide) rfl rfl (pa_cons (pe_ix (kix_tup (K := K) rfl) (pv 0) pe_int (fun _ _ => rfl)) (pa_cons (pe_ix (kix_tup (K := K) rfl) (pv 0) pe_int (fun _ _ => rfl)) pa_nil)) (by rfl))
  (pss_cons (ps_if (pt_cmpR op_eq (pv 3) pe_str (nomark _)) (pss_one (ps_ret (pe_tup (pa_cons (pe_callB (kcall_len (K := K) rfl) (by rfl) T.z_len b_len (pa_cons (pv 4) pa_nil)) (pa_cons (pe_callF (ok_law_more (K := K) T) (hr.mono (by omega)) (by rfl) T.g_law_more T.k_law_more (pa_cons pe_int (pa_cons (pe_callB (kcrT_sum (K := K) rfl rfl) (by rfl) T.z_sum b_sum (pa_cons (pv 4) pa_nil)) pa_nil))) (pa_cons pe_int pa_nil)))))) pss_nil)
  (pss_cons (ps_if (pt_cmpR (kop_in (K := K) rfl) (pv 3) (pe_tup (pa_cons pe_str (pa_cons pe_str pa_nil))) (by rfl)) (pss_one (ps_ret (pe_ifExp (pt_cmpR op_eq (pv 3) pe_str (nomark _)) (pe_tup (pa_cons pe_int (pa_cons (pe_callF (ok_law_more (K := K) T) (hr.mono (by omega)) (by rfl) T.g_law_more T.k_law_more (pa_cons pe_int (pa_cons (pe_ix (kix_tup (K := K) rfl) (pv 4) pe_int (fun _ _ => rfl)) pa_nil))) (pa_cons pe_int pa_nil)))) (pe_tup (pa_cons pe_int (pa_cons pe_int (pa_cons pe_int pa_nil))))))) pss_nil)
  (pss_cons (ps_if (pt_cmpR op_eq (pe_callB (kcall_len (K := K) rfl) (by rfl) T.z_len b_len (pa_cons (pv 1) pa_nil)) pe_int (nomark _)) (pss_one (ps_ret (pe_callF (ok_law_two_measured (K := K) T) (hr.mono (by omega)) (by rfl) T.g_law_two_measured T.k_law_two_measured (pa_cons (pv 3) (pa_cons (pe_ix (kix_list (K := K) rfl) (pv 1) pe_int (fun _ _ => rfl)) (pa_cons (pe_ix (kix_list (K := K) rfl) (pv 1) pe_int (fun _ _ => rfl)) (pa_cons (pv 2) pa_nil))))))) pss_nil)
  (pss_cons (ps_par (i := 5) (j := 6) (by rfl) sc_law_measured.nd rfl rfl (by decide) rfl rfl (pa_cons (pe_ix (kix_tup (K := K) rfl) (pe_ix (kix_list (K := K) rfl) (pv 1) pe_int (fun _ _ => rfl)) pe_int (fun _ _ => rfl)) (pa_cons (pe_ix (kix_tup (K := K) rfl) (pe_ix (kix_list (K := K) rfl) (pv 1) pe_int (fun _ _ => rfl)) pe_int (fun _ _ => rfl)) pa_nil)) (by rfl))
  (pss_cons (ps_if (pt_cmpR op_eq (pv 3) pe_str (nomark _)) (pss_cons (ps_set (i := 7) sc_law_measured.nd rfl (Or.inl rfl) (pe_ifExp (PW.pt (pw_and (pt_not (pt_val (pe_ix (kix_tup (K := K) rfl) (pe_ix (kix_list (K := K) rfl) (pv 1) pe_int (fun _ _ => rfl)) pe_int (fun _ _ => rfl)))) (pw_and1 (pt_cmpR op_gt (pe_ix (kix_tup (K := K) rfl) (pv 4) pe_int (fun _ _ => rfl)) pe_int (nomark _))))) (pe_callF (ok_law_power (K := K) T) (hr.mono (by omega)) (by rfl) T.g_law_power T.k_law_power (pa_cons (pv 2) (pa_cons (pe_op op_sub (pe_ix (kix_tup (K := K) rfl) (pv 4) pe_int (fun _ _ => rfl)) pe_int) pa_nil))) pe_int))
  (pss_one (ps_ret (pe_tup (pa_cons (pe_op op_add (pe_op op_mul (pe_ix (kix_tup (K := K) rfl) (pv 4) pe_int (fun _ _ => rfl)) (pe_op op_sub (pv 5) pe_int)) pe_int) (pa_cons (pe_callF (ok_law_power (K := K) T) (hr.mono (by omega)) (by rfl) T.g_law_power T.k_law_power (pa_cons (pv 6) (pa_cons (pe_ix (kix_tup (K := K) rfl) (pv 4) pe_int (fun _ _ => rfl)) pa_nil))) (pa_cons (pv 7) pa_nil))))))) pss_nil)
  (pss_cons (ps_if (pt_cmpR (kop_in (K := K) rfl) (pv 3) (pe_tup (pa_cons pe_str (pa_cons pe_str pa_nil))) (by rfl)) (pss_one (ps_ret (pe_ifExp (pt_cmpR op_eq (pv 3) pe_str (nomark _)) (pe_tup (pa_cons pe_int (pa_cons (pe_op op_mul (pv 5) (pe_op op_add (pv 6) pe_int)) (pa_cons pe_int pa_nil)))) (pe_tup (pa_cons pe_int (pa_cons (pv 5) (pa_cons pe_int pa_nil))))))) pss_nil)
  (pss_cons (ps_if (pt_cmpR (kop_in (K := K) rfl) (pv 3) (pe_tup (pa_cons pe_str (pa_cons pe_str (pa_cons pe_str pa_nil)))) (by rfl)) (pss_one (ps_ret (pe_dget (hu_of hr) (pe_disp (pps_cons pe_str (pe_tup (pa_cons (pv 5) (pa_cons (pv 6) (pa_cons pe_int pa_nil)))) (pps_cons pe_str (pe_tup (pa_cons pe_int (pa_cons (pe_op op_add (pv 6) pe_int) (pa_cons pe_int pa_nil)))) (pps_cons pe_str (pe_tup (pa_cons pe_int (pa_cons (pe_op op_add (pv 6) pe_int) (pa_cons pe_int pa_nil)))) pps_nil))) (by rfl) (by rfl) (fun z => by cases z) (by decide)) (pv 3) (fun _ _ => rfl)))) pss_nil)
  (pss_one (ps_ret (pe_tup (pa_cons (pv 5) (pa_cons (pe_op op_mul (pv 5) (pe_op op_add (pv 6) pe_int)) (pa_cons pe_int pa_nil)))))))))))))), ?_⟩
  obtain ⟨ra, gv, er, hr1, hg⟩ := hp
  cases er
  refine ⟨_, rfl, _, _, _, _, rfl, rfl, hr1, atI_nat (j := 2) rfl, _, rfl, _, _, _, _, rfl, rfl, hr1, atI_nat (j := 3) rfl, _, _, rfl, ?_⟩
  refine ⟨_, rfl, rfl, _, rfl, iteS (fun c => ?_) fun c1 => ?_⟩
  · obtain ⟨ks, rfl⟩ := deed_figs wf c
    have hg : SqT K H gv (ks.map V.int) := hg
    have hl : 1 ≤ ks.length := wf.1.1
    exact ⟨_, rfl, gv, _, rfl, .inr hg, _, rfl, gv, ks, rfl, hg, _, _, rfl, sz3, k.go (Ex.refl H) (by rw [List.length_map]; omega) (gr_l _ _) (by decide)⟩
  refine q_when (inC [V.str "number", V.str "base"] rfl) (fun c H1 x1 => ?_) (fun c2 H1 x1 => ?_)
  · refine ⟨_, rfl, rfl, _, rfl, iteS (fun c => ?_) fun c => ?_⟩
    · obtain ⟨k0, rfl⟩ := deed_num wf c
      have hg : SqT K H gv [V.int k0] := hg
      exact ⟨_, rfl, _, _, _, _, rfl, rfl, ex_t x1 hg, at0, _, _, rfl, sz3, k.go x1 (by decide) (gr_l _ _) (by decide)⟩
    · exact ⟨sz3, k.go x1 (by decide) (by decide) (by decide)⟩
  have c2 := niL (l := ["number", "base"]) c2
  have lts := paired_len hts
  refine q_when (et_test (ev_op (ev_len (ev_var rfl) (sq_of (x1 _ _ htl))) ev_c (rv_eq rfl))) (fun c H2 x2 => ?_) (fun c3 H2 x2 => ?_)
  · have c := V.int.inj (of_decide_eq_true c)
    rw [List.length_map] at c
    obtain ⟨t1, t2, y1, y2, rfl, ⟨m1, h1, o1⟩, m2, h2, o2⟩ := paired2 hts (by omega)
    have e2 := x1.trans x2
    exact ⟨_, rfl, _, rfl, _, _, _, _, rfl, rfl, sq_of (e2 _ _ htl), at0, _, rfl, _, _, _, _, rfl, rfl, sq_of (e2 _ _ htl), at1, _, rfl, _, t1, t2, m1, m2, wh, rfl, ⟨ex_t e2 h1, ex_t e2 h2, o1, o2⟩, ⟨w1, w2⟩, k.mono e2⟩
  have c3 : ¬ g.names.length = 2 := fun z => of_decide_eq_false c3 (by rw [List.length_map, lts, z]; rfl)
  obtain ⟨t1, y1, rfl, ⟨n, s', st, sr⟩, h1, ⟨a1, a2⟩, a3, a4⟩ := paired1 hts (one_name wf c1 c2 c3)
  dsimp only at a1 a2 a3 a4
  have e2 := x1.trans x2
  have hl2 := sq_of (K := K) (e2 _ _ htl)
  have h12 := ex_t e2 h1
  refine ⟨_, rfl, _, _, _, _, rfl, rfl, hl2, at0, _, _, _, _, rfl, rfl, h12, at0, _, rfl, _, _, _, _, rfl, rfl, hl2, at0, _, _, _, _, rfl, rfl, h12, at1, _, _, rfl, ?_⟩
  refine ⟨_, rfl, rfl, _, rfl, iteS (fun c4 => ?_) fun c4 => ?_⟩
  · obtain ⟨y0, k0, rfl⟩ := deed_pow wf c4
    have hg : SqT K H gv [V.str y0, V.int k0] := hg
    have wk : 0 ≤ k0 ∧ k0 < 100 := wf.2
    have hmo : (1 : Int) ≤ 1 := by decide
    have e5 := e2
    refine ⟨_, rfl, _, _, _, _, rfl, rfl, hl2, at0, _, _, _, _, rfl, rfl, h12, atI_nat (j := 2) rfl, st, rfl, ?_⟩
    cases st with
    | true =>
      refine ⟨_, rfl, _, _, _, _, rfl, rfl, ex_t e5 hg, at1, _, rfl, _, _, rfl, rfl, _, _, rfl, rfl, (.inl ⟨show -(2 ^ 64) < k0 by omega, show k0 < 2 ^ 64 by omega⟩), _, _, rfl, rfl, _, rfl, _, rfl, _, _, _, _, rfl, rfl, ex_t e5 hg, at1, _, _, rfl, fun i H6 hi e6 => ?_⟩
      have pp := Int.mul_nonneg (show 0 ≤ k0 by omega) (show 0 ≤ n - 1 by omega)
      exact ⟨_, rfl, sz3, k.go (e5.trans e6) (show 1 ≤ k0 * (n - 1) + 1 by omega) hi.1 hmo⟩
    | false =>
      refine ⟨_, rfl, _, _, _, _, rfl, rfl, ex_t e5 hg, at1, _, _, rfl, rfl, _, rfl, iteD (fun _ => ?_) fun _ => ?_⟩
      · refine ⟨_, rfl, _, rfl, _, _, _, _, rfl, rfl, ex_t e5 hg, at1, _, _, rfl, rfl, _, _, rfl, fun mo H5 hmo e5' => ?_⟩
        have hmo := hmo.1
        have e5 := e5.trans e5'
        refine ⟨_, rfl, _, _, _, _, rfl, rfl, ex_t e5 hg, at1, _, rfl, _, _, rfl, rfl, _, _, rfl, rfl, (.inl ⟨show -(2 ^ 64) < k0 by omega, show k0 < 2 ^ 64 by omega⟩), _, _, rfl, rfl, _, rfl, _, rfl, _, _, _, _, rfl, rfl, ex_t e5 hg, at1, _, _, rfl, fun i H6 hi e6 => ?_⟩
        have pp := Int.mul_nonneg (show 0 ≤ k0 by omega) (show 0 ≤ n - 1 by omega)
        exact ⟨_, rfl, sz3, k.go (e5.trans e6) (show 1 ≤ k0 * (n - 1) + 1 by omega) hi.1 hmo⟩
      · refine ⟨_, rfl, _, _, _, _, rfl, rfl, ex_t e5 hg, at1, _, rfl, _, _, rfl, rfl, _, _, rfl, rfl, (.inl ⟨show -(2 ^ 64) < k0 by omega, show k0 < 2 ^ 64 by omega⟩), _, _, rfl, rfl, _, rfl, _, rfl, _, _, _, _, rfl, rfl, ex_t e5 hg, at1, _, _, rfl, fun i H6 hi e6 => ?_⟩
        have pp := Int.mul_nonneg (show 0 ≤ k0 by omega) (show 0 ≤ n - 1 by omega)
        exact ⟨_, rfl, sz3, k.go (e5.trans e6) (show 1 ≤ k0 * (n - 1) + 1 by omega) hi.1 hmo⟩
  have q1 := mul1 a1 (show 1 ≤ s' + 2 by omega)
  refine q_when (inC [V.str "sum", V.str "many"] rfl) (fun c H3 x3 => ?_) (fun c5 H3 x3 => ?_)
  · have e3 := e2.trans x3
    refine ⟨_, rfl, rfl, _, rfl, iteS (fun c => ?_) fun c => ?_⟩
    · exact ⟨_, rfl, _, rfl, _, _, rfl, rfl, _, _, rfl, rfl, (.inl ⟨show -(2 ^ 64) < n by omega, show n < 2 ^ 64 by omega⟩), sz3, k.go e3 (by decide) q1 (by decide)⟩
    · exact ⟨_, rfl, sz3, k.go e3 (by decide) a1 (by decide)⟩
  have e3 := e2.trans x3
  refine q_when (inC [V.str "let", V.str "root", V.str "figure"] rfl (ea_cons ev_c (ea_cons ev_c (ea_cons ev_c ea_nil)))) (fun c H4 x4 => ?_) (fun c6 H4 x4 => ?_)
  · have e4 := e3.trans x4
    have c := inL (l := ["let", "root", "figure"]) c
    intro d hd
    have x5 := Ex.new (H := H4) (o := .dK []) hd
    refine ⟨_, rfl, _, rfl, sz3, fun t1 ht1 => ?_⟩
    have x6 := Ex.new (o := .tup [V.int n, V.int s', V.int 1]) ht1
    refine ⟨_, rfl, _, _, rfl, rfl, sz3, fun t2 ht2 => ?_⟩
    have x7 := Ex.new (o := .tup [V.int 2, V.int (s' + 4), V.int 1]) ht2
    refine ⟨_, rfl, _, _, rfl, rfl, sz3, fun t3 ht3 => ?_⟩
    have x8 := Ex.new (o := .tup [V.int 2, V.int (s' + 2), V.int 1]) ht3
    have hd8 := (x6.trans (x7.trans x8)) _ _ (upd_same (H := H4) (a := d) (o := .dK []))
    have s1 := (x7.trans x8) _ _ (upd_same (a := t1) (o := .tup [V.int n, V.int s', V.int 1]))
    have s2 := x8 _ _ (upd_same (a := t2) (o := .tup [V.int 2, V.int (s' + 4), V.int 1]))
    have e8 := e4.trans (x5.trans (x6.trans (x7.trans x8)))
    have hd0 : H d = none := fresh_back e4 hd
    refine ⟨hd8, [(Sum.inr "let", .ref t1), (Sum.inr "root", .ref t2), (Sum.inr "figure", .ref t3)], rfl, (show 3 ≤ 15 by decide), ?_⟩
    have nd : ∀ {t : Addr} {xs : List V} {HH : Hp}, HH d = some (.dK []) → HH t = some (.tup xs) → SqT K (upd HH d (.dK (mergeK [] [(Sum.inr "let", .ref t1), (Sum.inr "root", .ref t2), (Sum.inr "figure", .ref t3)]))) t xs := fun h1 h2 => sqT_wr h1 (fun _ z => nomatch z) (fun _ _ z => nomatch z) (SqT.of h2)
    have e9 := e8.mut (o := .dK (mergeK [] [(Sum.inr "let", .ref t1), (Sum.inr "root", .ref t2), (Sum.inr "figure", .ref t3)])) hd0
    have q1 := nd hd8 s1
    have q2 := nd hd8 s2
    have q3 := nd hd8 upd_same
    have gt : ∀ {y : Str} {v : V} {HH : Hp}, g.deed = y → valV (mergeK [] [(Sum.inr "let", .ref t1), (Sum.inr "root", .ref t2), (Sum.inr "figure", .ref t3)]) (Sum.inr y : Key) = some v → DGet (upd HH d (.dK (mergeK [] [(Sum.inr "let", .ref t1), (Sum.inr "root", .ref t2), (Sum.inr "figure", .ref t3)]))) d (.str g.deed) (some v) := fun {y v HH} e h => by
      rw [e, ← h]
      exact DGet.k (k := Sum.inr y) upd_same
    rcases List.mem_cons.mp c with c | c
    · exact ⟨_, rfl, d, .ref t1, rfl, gt c (by kernel_rfl), k t1 _ _ _ _ ⟨a1, a3, by decide⟩ e9 q1⟩
    rcases List.mem_cons.mp c with c | c
    · exact ⟨_, rfl, d, .ref t2, rfl, gt c (by kernel_rfl), k t2 _ (s' + 4) _ _ ⟨by decide, by omega, by decide⟩ e9 q2⟩
    · exact ⟨_, rfl, d, .ref t3, rfl, gt (List.mem_singleton.mp c) (by kernel_rfl), k t3 _ (s' + 2) _ _ ⟨by decide, by omega, by decide⟩ e9 q3⟩
  · have e4 := e3.trans x4
    exact ⟨_, rfl, _, rfl, _, rfl, _, _, rfl, rfl, _, _, rfl, rfl, (.inl ⟨show -(2 ^ 64) < n by omega, show n < 2 ^ 64 by omega⟩), sz3, k.go e4 a1 q1 (by decide)⟩
end
end E97
set_option Elab.async false
set_option linter.all false
set_option maxRecDepth 100000
set_option maxHeartbeats 4000000
/-! P25: the law's own measures: tests, names that are set -/
namespace E97
open PySem PySem.Spec PyProof.Rows L2 Evl NdefX
/-- a comprehension whose items are known by a word alone -/
theorem lc_good {J : It} {G : Hp → Prop} {xs : List V} (wk : Walk J xs.length G (YAt xs)) {j : Nat} {tt : TT} {te : TE} {vs : List Nat} {σ : L2.St} {H : Hp} {D : Addr} {Qd : Hp → Prop} (hD : H D = none) (hG : ∀ H', Ex H H' → G H') (F : V → Bool) (Good : Hp → V → V → Prop)
    (keep : ∀ {H1 : Hp} {x y : V} {acc acc' : List V}, H1 D = some (.lst acc) → acc'.length ≤ 100000 → Good H1 x y → Good (upd H1 D (.lst acc')) x y) (mono : ∀ {H1 H2 : Hp} {x y : V}, Ex H1 H2 → Good H1 x y → Good H2 x y) (hz : xs.length ≤ 10000)
    (hs : ∀ x ∈ xs, ∀ H1, Ex H H1 → wipe ((wipe σ vs).set j (some x)) vs = wipe σ vs ∧ EvT tt ((wipe σ vs).set j (some x)) H1 (F x) ∧ (F x = true → ∀ H2, Ex H1 H2 → ∀ R : VK, (∀ y H3, Ex H2 H3 → Good H3 x y → R y H3) → te ((wipe σ vs).set j (some x)) H2 R))
    (q : ∀ ys H', Ex H H' → H' D = some (.lst ys) → Paired (Good H') (xs.filter F) ys → Qd H') :
    ∃ W : Nat → Nat → Hp → Prop, (∃ m, W 0 m (upd H D (.lst []))) ∧ ∀ i m H, W i m H →
      (J.stop i H ∧ Qd H) ∨ (J.go i H ∧ ∃ Nx : Hp → Prop, (∀ H', Nx H' → ∃ m', m' < m ∧ W (i + 1) m' H') ∧ ∀ x H', J.yld i H x H' → gName j x (wipe σ vs) H' fun σ2 H2 => wipe σ2 vs = wipe σ vs ∧ tt σ2 H2 fun b H3 =>
        if b = true then te σ2 H3 fun y H4 => ∃ acc, H4 D = some (.lst acc) ∧ acc.length < sizeLine ∧ Nx (upd H4 D (.lst (acc ++ [y]))) else Nx H3) := by
  refine lc_it wk (fun i H' => ∃ ys, Ex H H' ∧ H' D = some (.lst ys) ∧ Paired (Good H') ((xs.take i).filter F) ys) ⟨[], Ex.new hD, upd_same, .nil⟩ (fun i H' _ ⟨_, e, _⟩ => hG H' e) (fun i x H1 H2 hi ⟨ys, e, hd, hp⟩ yx => ?_) fun H' ⟨ys, e, hd, hp⟩ => ?_
  · obtain ⟨rfl, hx⟩ := yx
    obtain ⟨w1, w2, w3⟩ := hs x (List.mem_of_getElem? hx) H2 e
    refine ⟨w1, w2 H2 (Ex.refl H2) _ fun H3 e3 => ?_⟩
    have lys : ys.length ≤ i := by
      rw [← paired_len hp]
      refine Nat.le_trans (List.length_filter_le _ _) ?_
      rw [List.length_take]
      omega
    have tk : (xs.take (i + 1)).filter F = (xs.take i).filter F ++ (if F x = true then [x] else []) := by
      rw [take_snoc hx, List.filter_append]
      congr 1
      by_cases c : F x = true
      · rw [if_pos c, List.filter_cons_of_pos c, List.filter_nil]
      · rw [if_neg c, List.filter_cons_of_neg c, List.filter_nil]
    by_cases c : F x = true
    · rw [if_pos c]
      refine w3 c H3 e3 _ fun y H4 e4 gy => ?_
      have hd4 := e4 _ _ (e3 _ _ hd)
      refine ⟨ys, hd4, Nat.lt_of_le_of_lt (show ys.length ≤ 10000 by omega) (by decide), ys ++ [y], (e.trans (e3.trans e4)).mut hD, upd_same, ?_⟩
      rw [tk, if_pos c]
      have l2 : (ys ++ [y]).length ≤ 100000 := by rw [List.length_append]; show ys.length + 1 ≤ 100000; omega
      exact paired_append (Paired.mapP hp fun _ _ z => keep hd4 l2 (mono (e3.trans e4) z)) (.cons (keep hd4 l2 gy) .nil)
    · rw [if_neg c]
      refine ⟨ys, e.trans e3, e3 _ _ hd, ?_⟩
      rw [tk, if_neg c, List.append_nil]
      exact Paired.mapP hp fun _ _ z => mono e3 z
  · rw [List.take_length] at hp
    exact q ys H' e hd hp
theorem paired1' {α β : Type} {R : α → β → Prop} {xs : List α} {ys : List β} (h : Paired R xs ys) (hl : xs.length = 1) : ∃ x y, ys = [y] ∧ R x y := by
  cases h with
  | nil => cases hl
  | cons r t =>
    cases t with
    | nil => exact ⟨_, _, rfl, r⟩
    | cons r t => cases hl
theorem paired2' {α β : Type} {R : α → β → Prop} {xs : List α} {ys : List β} (h : Paired R xs ys) (hl : xs.length = 2) : ∃ x x' y y', ys = [y, y'] ∧ R x y ∧ R x' y' := by
  cases h with
  | nil => cases hl
  | cons r t =>
    obtain ⟨x', y', rfl, r'⟩ := paired1' t (Nat.succ.inj hl)
    exact ⟨_, _, _, _, rfl, r, r'⟩
/-- a told measure -/
def Told4 (K : PySem.W.Frag) (H : Hp) (y : V) : Prop := ∃ (t : Addr) (m : M4), y = .ref t ∧ SqT K H t (mV m) ∧ m.ok
theorem Told4.mono {K : PySem.W.Frag} {H H' : Hp} {y : V} (e : Ex H H') : Told4 K H y → Told4 K H' y := fun ⟨t, m, h1, h2, h3⟩ => ⟨t, m, h1, ex_t e h2, h3⟩
theorem Told4.wr {K : PySem.W.Frag} {H : Hp} {y : V} {D : Addr} {acc acc' : List V} (hD : H D = some (.lst acc)) : Told4 K H y → Told4 K (upd H D (.lst acc')) y := fun ⟨t, m, h1, h2, h3⟩ => ⟨t, m, h1, sqT_wr hD (fun _ z => nomatch z) (fun _ _ z => nomatch z) h2, h3⟩
theorem get4 {K : PySem.W.Frag} {NS : List Str} {H : Hp} {d t : Addr} {kvs : List (Key × V)} {f : Str → M4} (n : NowAt K NS H d kvs f) (hf : ∀ x, (f x).ok) (ht : SqT K H t [.int 1, .int 1, .bl true, .bl true]) (y : Str) : Told4 K H ((valV kvs (Sum.inr y : Key)).getD (.ref t)) := by
  cases e : valV kvs (Sum.inr y : Key) with
  | some v =>
    obtain ⟨t', rfl, h⟩ := n.get y v e
    exact ⟨t', f y, rfl, h, hf y⟩
  | none => exact ⟨t, first4, rfl, ht, first4_ok⟩
def sp_lask_period (K : PySem.W.Frag) : SP0 := fun vs H Q => ∃ (v : V) (t : PT) (d : Addr) (span : Int) (NS : List Str) (kvs : List (Key × V)) (f : Str → M4), vs = [v, .ref d, .int span] ∧ AskAt K H v t ∧ t.wf NS 4 ∧ (NowAt K NS H d kvs f ∧ ∀ x, (f x).ok) ∧ (1 ≤ span ∧ span ≤ 1000000) ∧ ∀ i H', (1 ≤ i ∧ i ≤ 1000000) → Ex H H' → Q (.int i) H'
def sp_lset_in (K : PySem.W.Frag) (n : Nat) : SP0 := fun vs H Q => ∃ (a : Addr) (ws : List V) (bs : List Lb) (e : Nat) (NS : List Str), n = e + 1 ∧ vs = [.ref a] ∧ (SqL K H a ws ∨ SqT K H a ws) ∧ Paired (LbAt K H) ws bs ∧ (((∀ b ∈ bs, b.wf NS) ∧ cntS bs ≤ 1000) ∧ (e = 0 → onesB bs)) ∧ ∀ (p : Addr) (xs : List Str) (H' : Hp), H p = none → Ex H H' → H' p = some (.lst (xs.map V.str)) → ((∀ x ∈ xs, x ∈ NS) ∧ xs.length ≤ cntS bs) → Q (.ref p) H'
theorem min6 {i : Int} (h : 1 ≤ i) : 1 ≤ (if (10 : Int) ^ (6 : Int).toNat < i then (10 : Int) ^ (6 : Int).toNat else i) ∧ (if (10 : Int) ^ (6 : Int).toNat < i then (10 : Int) ^ (6 : Int).toNat else i) ≤ 1000000 := by
  rw [show (10 : Int) ^ (6 : Int).toNat = 1000000 by decide]
  split <;> omega
section
variable {P : Program} {w : World} {K : PySem.W.Frag} {mg : Str → Option Value} {base : Heap} {NS : List Str}
theorem ok_law_ask_period (T : Txt w K mg) : FR P w K mg base (3) (a_law_ask_period K) (sp_lask_period K) := by
  obtain ⟨fd, F⟩ := T.d_law_ask_period
  refine mkR F sc_law_ask_period (fun _ _ _ _ _ _ us hl => match us, hl with | [_, _, _], _ => rfl) (fun vs H Q h => by obtain ⟨v, t, d, span, NS, kvs, f, rfl, hv, wf, ⟨hn, hf⟩, ⟨s1, s2⟩, k⟩ := h; rfl) fun cdv A outer s H vs Q E hr h => ?_
  obtain ⟨v, t, d, span, NS, kvs, f, rfl, hv, wf, ⟨hn, hf⟩, ⟨s1, s2⟩, k⟩ := h
  refine ⟨_, (pss_cons (ps_while PassesOwn.never (pt_cmpR op_eq (pe_ix (kix_tup (K := K) rfl) (pv 0) pe_int (fun _ _ => rfl)) pe_str (nomark _)) (pss_one (ps_set (i := 0) sc_law_ask_period.nd rfl (Or.inl rfl) (pe_ix (kix_tup (K := K) rfl) (pv 0) pe_int (fun _ _ => rfl)))))
  (pss_cons (ps_if (pt_cmpR op_ne (pe_ix (kix_tup (K := K) rfl) (pv 0) pe_int (fun _ _ => rfl)) pe_str (nomark _)) (pss_one (ps_ret (pv 2))) pss_nil)
  (pss_cons (ps_setLc (i := 3) (own := [("_law_name", 4)]) rfl sc_law_ask_period.nd rfl rfl (sw_true rfl rfl rfl (by decide +kernel)) (kpi_tup (K := K) rfl (pe_ix (kix_tup (K := K) rfl) (pv 0) pe_int (fun _ _ => rfl))) (blkOk_by (own := [("_law_name", 4)]) (N := N_law_ask_period) (sc := defScope s_law_ask_period) (by decide +kernel)) (fun _ _ _ _ _ => (pg_name (i := 4) sc_law_ask_period.nd rfl (Or.inl rfl))) (fun _ _ _ _ _ => pts_nil) (fun _ _ _ _ _ => (pe_dget2 (hu_of hr) (pv 1) (pv 4) (pe_tup (pa_cons pe_int (pa_cons pe_int (pa_cons pe_bl (pa_cons pe_bl pa_nil))))) (by exact ⟨by rfl, by rfl, by rfl, by rfl⟩))))
  (pss_one (ps_ret (pe_callB (call_min2 rfl) (by rfl) T.z_min b_min (pa_cons (pe_callTy call_int1 (by rfl) T.z_int b_int (pa_cons (pe_op op_mul (pv 2) (pe_callF (ok_law_rest_more (K := K) T) (hr.mono (by omega)) (by rfl) T.g_law_rest_more T.k_law_rest_more (pa_cons (pe_ix (kix_list (K := K) rfl) (pv 3) pe_int (fun _ _ => rfl)) (pa_cons (pe_ix (kix_list (K := K) rfl) (pv 3) pe_int (fun _ _ => rfl)) pa_nil)))) pa_nil)) (pa_cons (pe_op op_pow pe_int pe_int) pa_nil)))))))), ?_⟩
  refine ⟨fun m σ H' => H' = H ∧ ∃ v t n, σ = [some v, some (.ref d), some (.int span), none, none] ∧ AskAt K H v t ∧ t.wf NS n ∧ m = t.depth, ⟨_, rfl, v, t, 4, rfl, hv, wf, rfl⟩, ?_⟩
  rintro m σ H' ⟨rfl, v, t, n, rfl, hv, wf, rfl⟩
  cases t with
  | not t =>
    obtain ⟨a, u, rfl, ha, hu⟩ := hv
    refine ⟨_, rfl, _, _, _, _, rfl, rfl, ha, at0, rfl, _, rfl, iteS (fun _ => ?_) fun c => absurd rfl c⟩
    cases n with
    | zero => exact wf.elim
    | succ n =>
      refine ⟨fun σ2 H2 => H2 = H' ∧ σ2 = [some u, some (.ref d), some (.int span), none, none], fun σ2 H2 ⟨e1, e2⟩ => ⟨t.depth, Nat.lt_succ_self _, e1, u, t, n, e2, hu, wf, rfl⟩, ?_⟩
      exact ⟨_, rfl, _, _, _, _, rfl, rfl, ha, at1, rfl, rfl⟩
  | ask word ns =>
    have wf : (PT.ask word ns).wf NS 0 := by cases n <;> exact wf
    obtain ⟨a, r, rfl, ha, hr'⟩ := hv
    refine ⟨_, rfl, _, _, _, _, rfl, rfl, ha, at0, rfl, _, rfl, iteS (fun c => absurd c (by decide +kernel)) fun _ => ?_⟩
    refine ⟨_, rfl, _, _, _, _, rfl, rfl, ha, at1, rfl, _, rfl, iteNS (fun _ => ⟨_, rfl, k span _ ⟨s1, s2⟩ (Ex.refl _)⟩) fun c => ?_⟩
    have l2 : ns.length = 2 := by
      rw [wf.2.1, c]
      decide +kernel
    refine ⟨_, rfl, _, _, _, _, rfl, rfl, ha, atI_nat (j := 2) rfl, r, rfl, ⟨_, hr'⟩, fun D hD => ?_⟩
    refine lc_good walk_tup hD (fun H' e => ex_t e hr') (fun _ => true) (fun H' _ y => Told4 K H' y) (fun h _ z => z.wr h) (fun e z => z.mono e) (by rw [List.length_map]; omega) (fun x hx H1 e1 => ⟨rfl, fun H2 e2 Q2 q2 => q2 H2 (Ex.refl _), fun _ H2 e2 R kR => ?_⟩) fun ys H2 e2 hD2 hp => ?_
    · obtain ⟨y, _, rfl⟩ := List.mem_map.mp hx
      have e12 := e1.trans e2
      have n2 := hn.mono e12
      refine ⟨_, rfl, d, rfl, .inl ⟨kvs, .inl n2.at_⟩, _, rfl, (show 4 ≤ sizeLine by decide), fun t ht => ?_⟩
      have x3 := Ex.new (H := H2) (o := .tup [V.int 1, V.int 1, V.bl true, V.bl true]) ht
      have n3 := n2.mono x3
      exact ⟨_, DGet.k (k := Sum.inr y) n3.at_, kR _ _ x3 (get4 n3 hf (SqT.of upd_same) y)⟩
    · rw [List.filter_eq_self.mpr fun _ _ => rfl] at hp
      obtain ⟨_, _, y1, y2, rfl, ⟨t1, m1, rfl, h1, o1⟩, t2, m2, rfl, h2, o2⟩ := paired2' hp (by rw [List.length_map]; exact l2)
      refine ⟨_, rfl, _, rfl, _, _, _, _, rfl, rfl, sq_of hD2, at1, _, rfl, _, _, _, _, rfl, rfl, sq_of hD2, at0, t2, t1, m2, m1, rfl, ⟨h2, h1, o2, o1⟩, fun i H3 hi e3 => ?_⟩
      refine ⟨_, _, rfl, rfl, (.inl ⟨show -(2 ^ 64) < span by omega, show span < 2 ^ 64 by omega⟩), .inl ⟨_, rfl, _, _, rfl, rfl, ⟨by decide, by decide, by decide⟩, _, _, rfl, ?_⟩⟩
      exact k _ _ (min6 (mul1 s1 hi.1)) (e2.trans e3)
theorem set_in_step (T : Txt w K mg) (n : Nat) (GS : FR P w K mg base (n + 1) (a_law_set_in K) (sp_lset_in K n)) : FR P w K mg base (n + 2) (a_law_set_in K) (sp_lset_in K (n + 1)) := by
  obtain ⟨fd, F⟩ := T.d_law_set_in
  refine mkR F sc_law_set_in (fun _ _ _ _ _ _ us hl => match us, hl with | [_], _ => rfl) (fun vs H Q h => by obtain ⟨a, ws, bs, e, NS, hne, rfl, hq, hp, ⟨⟨wf, few⟩, hone⟩, k⟩ := h; rfl) fun cdv A outer s H vs Q E hr h => ?_
  obtain ⟨a, ws, bs, e, NS, hne, rfl, hq, hp, ⟨⟨wf, few⟩, hone⟩, k⟩ := h
  refine ⟨_, (pss_cons (ps_set (i := 1) sc_law_set_in.nd rfl (Or.inl rfl) (pe_lst pa_nil))
  (pss_cons (ps_for PassesOwn.never rfl (kpi_any (K := K) rfl (pv 0)) (pg_name (i := 2) sc_law_set_in.nd rfl (Or.inl rfl)) (pss_one (ps_if (pt_cmpR op_eq (pe_ix (kix_tup (K := K) rfl) (pv 2) pe_int (fun _ _ => rfl)) pe_str (nomark _)) (pss_one (ps_expr (kpe_bm (K := K) rfl PySem.F.plainAttrs_list PySem.F.slot_list_append PySem.F.type_list_append mt_append (pv 1) (pa_cons (pe_ix (kix_tup (K := K) rfl) (pv 2) pe_int (fun _ _ => rfl)) pa_nil)))) (pss_one (ps_if (pt_cmpR op_ne (pe_ix (kix_tup (K := K) rfl) (pv 2) pe_int (fun _ _ => rfl)) pe_str (nomark _)) (pss_cons (ps_expr (kpe_bm (K := K) rfl PySem.F.plainAttrs_list PySem.F.slot_list_extend PySem.F.type_list_extend (kmt_extend (K := K) rfl) (pv 1) (pa_cons (pe_callF (GS) (hr.mono (by omega)) (by rfl) T.g_law_set_in T.k_law_set_in (pa_cons (pe_ix (kix_tup (K := K) rfl) (pv 2) pe_int (fun _ _ => rfl)) pa_nil)) pa_nil)))
  (pss_one (ps_expr (kpe_bm (K := K) rfl PySem.F.plainAttrs_list PySem.F.slot_list_extend PySem.F.type_list_extend (kmt_extend (K := K) rfl) (pv 1) (pa_cons (pe_callF (GS) (hr.mono (by omega)) (by rfl) T.g_law_set_in T.k_law_set_in (pa_cons (pe_ifExp (pt_cmpR op_eq (pe_ix (kix_tup (K := K) rfl) (pv 2) pe_int (fun _ _ => rfl)) pe_str (nomark _)) (pe_ix (kix_tup (K := K) rfl) (pv 2) pe_int (fun _ _ => rfl)) (pe_tup pa_nil)) pa_nil)) pa_nil))))) pss_nil)))))
  (pss_one (ps_ret (pv 1))))), ?_⟩
  obtain rfl : n = e := by omega
  refine ⟨Nat.zero_le _, fun fl hfl => ?_⟩
  have x1 := Ex.new (H := H) (o := .lst []) hfl
  refine for_any (K := K) (xs := ws) rfl hq x1 (fun i σ' H' => ∃ (o2 : Option V) (xs : List Str), Ex H H' ∧ H' fl = some (.lst (xs.map V.str)) ∧ (∀ x ∈ xs, x ∈ NS) ∧ xs.length ≤ cntS (bs.take i) ∧ σ' = [some (.ref a), some (.ref fl), o2]) ⟨none, [], x1, upd_same, fun _ h => (nomatch h), Nat.zero_le _, rfl⟩ (fun i σ' H' _ ⟨_, _, z, _⟩ => z) (fun i x σ' H' hx ⟨o2, xs, e1, hf, hxs, hl, hσ⟩ => ?_) fun σ' H' ⟨o2, xs, e1, hf, hxs, hl, hσ⟩ => ?_
  · subst hσ
    obtain ⟨b, hb⟩ := get_of_len (ys := bs) hx (paired_len hp).symm
    have bm := List.mem_of_getElem? hb
    have hbw := (paired_get hp hx hb).mono e1
    have wb := wf b bm
    have ct : cntS (bs.take (i + 1)) = cntS (bs.take i) + cntB b := by rw [take_snoc hb, cntS_add]
    have ct2 := cntS_take bs (i + 1)
    cases b with
    | one r =>
      cases r with
      | put y g =>
        obtain ⟨ra, gv, rfl, hr1, hg⟩ := hbw
        refine ⟨_, rfl, _, _, _, _, rfl, rfl, hr1, at0, rfl, _, rfl, iteS (fun _ => ?_) fun c => absurd rfl c⟩
        refine ⟨_, rfl, tyL hf, _, rfl, _, _, _, _, rfl, rfl, hr1, at1, fl, _, _, rfl, rfl, hf, ?_, ?_⟩
        · rw [List.length_map]
          exact Nat.lt_of_le_of_lt (show _ ≤ 1000 by omega) (by decide)
        · refine ⟨_, xs ++ [y], e1.mut hfl, ?_, fun z hz => ?_, ?_, rfl⟩
          · rw [List.map_append]
            exact upd_same
          · rcases List.mem_append.mp hz with hz | hz
            · exact hxs z hz
            · rw [List.mem_singleton.mp hz]
              exact wb.1
          · rw [List.length_append, ct]
            exact Nat.add_le_add hl (Nat.le_refl 1)
      | stop =>
        obtain ⟨ra, rfl, hr1⟩ := hbw
        refine ⟨_, rfl, _, _, _, _, rfl, rfl, hr1, at0, rfl, _, rfl, iteS (fun c => absurd c (by decide +kernel)) fun _ => ?_⟩
        refine ⟨_, rfl, _, _, _, _, rfl, rfl, hr1, at0, rfl, _, rfl, iteNS (fun c => absurd rfl c) fun _ => ?_⟩
        exact ⟨_, xs, e1, hf, hxs, by rw [ct]; omega, rfl⟩
    | times m rs =>
      obtain ⟨ra, t1, vs1, rfl, hr1, ht1, hp1⟩ := hbw
      have wb : m ≤ 4 ∧ ∀ r ∈ rs, r.wf NS := wb
      have cb : cntB (.times m rs) = 1 + rs.length := rfl
      obtain ⟨n', rfl⟩ : ∃ n', n = n' + 1 := by
        cases n with
        | zero =>
          obtain ⟨q, rfl⟩ := hone rfl
          obtain ⟨r, _, h⟩ := List.mem_map.mp bm
          cases h
        | succ n' => exact ⟨n', rfl⟩
      refine ⟨_, rfl, _, _, _, _, rfl, rfl, hr1, at0, rfl, _, rfl, iteS (fun c => absurd c (by decide +kernel)) fun _ => ?_⟩
      refine ⟨_, rfl, _, _, _, _, rfl, rfl, hr1, at0, rfl, _, rfl, iteNS (fun _ => ?_) fun c => absurd c (by decide +kernel)⟩
      refine ⟨_, rfl, tyL hf, _, rfl, _, _, _, _, rfl, rfl, hr1, atI_nat (j := 2) rfl, t1, vs1, rs.map Lb.one, n', NS, rfl, rfl, .inr ht1, lb_of_ones hp1, ⟨⟨fun z hz => ?_, by rw [cntS_ones]; omega⟩, fun _ => ⟨rs, rfl⟩⟩, fun p ys H2 hp2' e2 h2 ⟨g1, g2⟩ => ?_⟩
      · obtain ⟨r, hr0, rfl⟩ := List.mem_map.mp hz
        exact wb.2 r hr0
      rw [cntS_ones] at g2
      refine ⟨fl, p, _, _, rfl, rfl, e2 _ _ hf, .inl h2, Nat.le_trans (show _ ≤ 4000 by rw [List.length_map, List.length_map]; omega) (by decide), ?_⟩
      have e3 := (e1.trans e2).mut (o := .lst (xs.map V.str ++ ys.map V.str)) hfl
      have hf3 : (upd H2 fl (.lst (xs.map V.str ++ ys.map V.str))) fl = some (.lst ((xs ++ ys).map V.str)) := by rw [upd_same, List.map_append]
      have keep : ∀ {a xs0}, SqT K H2 a xs0 → SqT K (upd H2 fl (.lst (xs.map V.str ++ ys.map V.str))) a xs0 := fun h => sqT_wr (e2 _ _ hf) (fun _ z => nomatch z) (fun _ _ z => nomatch z) h
      have hr3 := keep (ex_t e2 hr1)
      generalize upd H2 fl (.lst (xs.map V.str ++ ys.map V.str)) = H3 at e3 hf3 hr3 ⊢
      refine ⟨_, rfl, tyL hf3, _, rfl, _, _, _, _, rfl, rfl, hr3, at0, rfl, _, rfl, ?_⟩
      refine iteS (fun c => absurd c (by decide +kernel)) fun _ => ?_
      refine ⟨Nat.zero_le _, fun q hq => ?_⟩
      have x4 := Ex.new (H := H3) (o := .tup []) hq
      refine ⟨q, [], [], n', NS, rfl, rfl, .inr (SqT.of upd_same), .nil, ⟨⟨fun _ h => (nomatch h), Nat.zero_le _⟩, fun _ => ⟨[], rfl⟩⟩, fun p4 ys2 H4 hp4 e4' h4 ⟨g3, g4⟩ => ?_⟩
      have g4 : ys2.length ≤ 0 := g4
      have hf4 := e4' _ _ (x4 _ _ hf3)
      have e4 := e3.trans (x4.trans e4')
      have inc : ∀ z ∈ xs ++ ys ++ ys2, z ∈ NS := fun z hz => by
        rcases List.mem_append.mp hz with hz | hz
        · rcases List.mem_append.mp hz with hz | hz
          · exact hxs z hz
          · exact g1 z hz
        · exact g3 z hz
      refine ⟨fl, p4, _, _, rfl, rfl, hf4, .inl h4, Nat.le_trans (show _ ≤ 9000 by rw [List.length_map, List.length_map, List.length_append]; omega) (by decide), ?_⟩
      refine ⟨_, xs ++ ys ++ ys2, e4.mut hfl, ?_, inc, ?_, rfl⟩
      · rw [upd_same, List.map_append, List.map_append, List.map_append]
      · rw [List.length_append, List.length_append, ct, cb]
        omega
    | ife t rs os =>
      obtain ⟨ra, u, t1, t2, vs1, vs2, rfl, hr1, hu, ⟨ht1, hp1⟩, ht2, hp2⟩ := hbw
      have wb : t.wf NS 4 ∧ (∀ r ∈ rs, r.wf NS) ∧ ∀ r ∈ os, r.wf NS := wb
      have cb : cntB (.ife t rs os) = 1 + (rs.length + os.length) := rfl
      obtain ⟨n', rfl⟩ : ∃ n', n = n' + 1 := by
        cases n with
        | zero =>
          obtain ⟨q, rfl⟩ := hone rfl
          obtain ⟨r, _, h⟩ := List.mem_map.mp bm
          cases h
        | succ n' => exact ⟨n', rfl⟩
      refine ⟨_, rfl, _, _, _, _, rfl, rfl, hr1, at0, rfl, _, rfl, iteS (fun c => absurd c (by decide +kernel)) fun _ => ?_⟩
      refine ⟨_, rfl, _, _, _, _, rfl, rfl, hr1, at0, rfl, _, rfl, iteNS (fun _ => ?_) fun c => absurd c (by decide +kernel)⟩
      refine ⟨_, rfl, tyL hf, _, rfl, _, _, _, _, rfl, rfl, hr1, atI_nat (j := 2) rfl, t1, vs1, rs.map Lb.one, n', NS, rfl, rfl, .inr ht1, lb_of_ones hp1, ⟨⟨fun z hz => ?_, by rw [cntS_ones]; omega⟩, fun _ => ⟨rs, rfl⟩⟩, fun p ys H2 hp2' e2 h2 ⟨g1, g2⟩ => ?_⟩
      · obtain ⟨r, hr0, rfl⟩ := List.mem_map.mp hz
        exact wb.2.1 r hr0
      rw [cntS_ones] at g2
      refine ⟨fl, p, _, _, rfl, rfl, e2 _ _ hf, .inl h2, Nat.le_trans (show _ ≤ 4000 by rw [List.length_map, List.length_map]; omega) (by decide), ?_⟩
      have e3 := (e1.trans e2).mut (o := .lst (xs.map V.str ++ ys.map V.str)) hfl
      have hf3 : (upd H2 fl (.lst (xs.map V.str ++ ys.map V.str))) fl = some (.lst ((xs ++ ys).map V.str)) := by rw [upd_same, List.map_append]
      have keep : ∀ {a xs0}, SqT K H2 a xs0 → SqT K (upd H2 fl (.lst (xs.map V.str ++ ys.map V.str))) a xs0 := fun h => sqT_wr (e2 _ _ hf) (fun _ z => nomatch z) (fun _ _ z => nomatch z) h
      have hr3 := keep (ex_t e2 hr1)
      have ht23 := keep (ex_t e2 ht2)
      have hp23 := Paired.mapP hp2 fun _ _ z => L1At.map (fun _ _ h => keep (ex_t e2 h)) z
      generalize upd H2 fl (.lst (xs.map V.str ++ ys.map V.str)) = H3 at e3 hf3 hr3 ht23 hp23 ⊢
      refine ⟨_, rfl, tyL hf3, _, rfl, _, _, _, _, rfl, rfl, hr3, at0, rfl, _, rfl, ?_⟩
      refine iteS (fun _ => ?_) fun c => absurd rfl c
      refine ⟨_, rfl, _, _, _, _, rfl, rfl, hr3, atI_nat (j := 3) rfl, t2, vs2, os.map Lb.one, n', NS, rfl, rfl, .inr ht23, lb_of_ones hp23, ⟨⟨fun z hz => ?_, by rw [cntS_ones]; omega⟩, fun _ => ⟨os, rfl⟩⟩, fun p4 ys2 H4 hp4 e4' h4 ⟨g3, g4⟩ => ?_⟩
      · obtain ⟨r, hr0, rfl⟩ := List.mem_map.mp hz
        exact wb.2.2 r hr0
      rw [cntS_ones] at g4
      have hf4 := e4' _ _ hf3
      have e4 := e3.trans e4'
      have inc : ∀ z ∈ xs ++ ys ++ ys2, z ∈ NS := fun z hz => by
        rcases List.mem_append.mp hz with hz | hz
        · rcases List.mem_append.mp hz with hz | hz
          · exact hxs z hz
          · exact g1 z hz
        · exact g3 z hz
      refine ⟨fl, p4, _, _, rfl, rfl, hf4, .inl h4, Nat.le_trans (show _ ≤ 9000 by rw [List.length_map, List.length_map, List.length_append]; omega) (by decide), ?_⟩
      refine ⟨_, xs ++ ys ++ ys2, e4.mut hfl, ?_, inc, ?_, rfl⟩
      · rw [upd_same, List.map_append, List.map_append, List.map_append]
      · rw [List.length_append, List.length_append, ct, cb]
        omega
  · subst hσ
    rw [paired_len hp, List.take_length] at hl
    exact ⟨_, rfl, k fl xs H' hfl e1 hf ⟨hxs, hl⟩⟩
theorem ok_law_set_in (T : Txt w K mg) : ∀ n, FR P w K mg base (n + 1) (a_law_set_in K) (sp_lset_in K n)
  | 0 => FR.never fun vs H Q ⟨_, _, _, _, _, h, _⟩ => nomatch h
  | n + 1 => set_in_step T n (ok_law_set_in T n)
end
end E97
set_option Elab.async false
set_option linter.all false
set_option maxRecDepth 100000
set_option maxHeartbeats 4000000
/-! P26: the law's own measures: rows -/
namespace E97
open PySem PySem.Spec PyProof.Rows L2 Evl NdefX
/-- the state at a, its dict at d; neither among what is asked later -/
structure StAt (K : PySem.W.Frag) (NS : List Str) (H0 H : Hp) (a d : Addr) : Prop where
  ex : Ex H0 H
  fr : H0 a = none
  frd : H0 d = none
  ob : ∃ l w p : Int, H a = some (.lst [.ref d, .int l, .int w, .int p]) ∧ 1 ≤ p ∧ p ≤ 1000000
  dc : ∃ kvs f, NowAt K NS H d kvs f ∧ ∀ x, M4.ok (f x)
section
variable {K : PySem.W.Frag} {NS : List Str} {H0 H H' : Hp} {a d d' : Addr}
theorem StAt.mono (m : StAt K NS H0 H a d) (e : Ex H H') : StAt K NS H0 H' a d :=
  ⟨m.ex.trans e, m.fr, m.frd, let ⟨l, w, p, h, z⟩ := m.ob; ⟨l, w, p, e _ _ h, z⟩, let ⟨kvs, f, n, z⟩ := m.dc; ⟨kvs, f, n.mono e, z⟩⟩
theorem StAt.big (m : StAt K NS H0 H a d) : StAt K NS (rm2 H a d) H a d :=
  ⟨rm2_ex _ _ _, by unfold rm2; rw [if_pos (.inl rfl)], by unfold rm2; rw [if_pos (.inr rfl)], m.ob, m.dc⟩
theorem StAt.sub (m : StAt K NS H0 H a d) : Ex H0 (rm2 H a d) := fun b o h => rm2_of (m.ex b o h) (fun e => by rw [e, m.fr] at h; cases h) (fun e => by rw [e, m.frd] at h; cases h)
theorem StAt.back (m : StAt K NS H0 H a d) (m' : StAt K NS (rm2 H a d) H' a d') : StAt K NS H0 H' a d' :=
  ⟨m.sub.trans m'.ex, m.fr, fresh_back m.sub m'.frd, m'.ob, m'.dc⟩
theorem StAt.nda (m : StAt K NS H0 H a d) : d ≠ a := by
  obtain ⟨l, w, p, h, _⟩ := m.ob
  obtain ⟨kvs, f, n, _⟩ := m.dc
  exact ne_of n.at_ h (fun z => nomatch z)
theorem StAt.keepT (m : StAt K NS H0 H a d) {b : Addr} {xs : List V} (h : SqT K H b xs) : SqT K (rm2 H a d) b xs := by
  obtain ⟨l, w, p, ha, _⟩ := m.ob
  obtain ⟨kvs, f, n, _⟩ := m.dc
  rcases h with (h | ⟨o, h⟩) | h
  · exact .inl (.inl (rm2_of h (ne_of h ha (fun z => nomatch z)) (ne_of h n.at_ (fun z => nomatch z))))
  · exact .inl (.inr ⟨o, rm2_of h (ne_of h ha (fun z => nomatch z)) (ne_of h n.at_ (fun z => nomatch z))⟩)
  · exact .inr h
theorem sqT_lst {a b : Addr} {xs ys : List V} {o : HO} (ha : H a = some (.lst ys)) (h : SqT K H b xs) : SqT K (upd H a o) b xs := sqT_wr ha (fun _ z => nomatch z) (fun _ _ z => nomatch z) h
/-- a list's store -/
theorem NowAt.lst {kvs : List (Key × V)} {f : Str → M4} {ys : List V} {o : HO} (n : NowAt K NS H d kvs f) (ha : H a = some (.lst ys)) : NowAt K NS (upd H a o) d kvs f :=
  ⟨by rw [upd_ne (ne_of n.at_ ha (fun z => nomatch z))]; exact n.at_, n.nd, n.ks, fun x v h => let ⟨t, e1, e2⟩ := n.get x v h; ⟨t, e1, sqT_lst ha e2⟩, n.no⟩
theorem StAt.set (m : StAt K NS H0 H a d) {l w p : Int} (hp : 1 ≤ p ∧ p ≤ 1000000) : StAt K NS H0 (upd H a (.lst [.ref d, .int l, .int w, .int p])) a d := by
  obtain ⟨l0, w0, p0, ha, _⟩ := m.ob
  obtain ⟨kvs, f, n, hf⟩ := m.dc
  exact ⟨m.ex.mut m.fr, m.fr, m.frd, ⟨l, w, p, upd_same, hp⟩, ⟨kvs, f, n.lst ha, hf⟩⟩
theorem StAt.putN (m : StAt K NS H0 H a d) {kvs : List (Key × V)} {f : Str → M4} {x : Str} {t : Addr} {q : M4} (n : NowAt K NS H d kvs f) (hf : ∀ x, (f x).ok) (hx : x ∈ NS) (ht : SqT K H t (mV q)) (hq : q.ok) : StAt K NS H0 (upd H d (.dK (putK kvs (Sum.inr x) (.ref t)))) a d := by
  obtain ⟨l, w, p, ha, hp⟩ := m.ob
  refine ⟨m.ex.mut m.frd, m.fr, m.frd, ⟨l, w, p, by rw [upd_ne m.nda.symm]; exact ha, hp⟩, ⟨_, setN f x q, n.put hx ht, fun y => ?_⟩⟩
  unfold setN
  split
  · exact hq
  · exact hf y
end
def isS (v : V) : Bool := match v with
  | .str _ => true
  | _ => false
theorem isS_ints : ∀ ks : List Int, (ks.map V.int).filter isS = []
  | [] => rfl
  | _ :: r => isS_ints r
theorem given_isS : ∀ g : PutG, g.given.filter isS = g.names.map V.str
  | .figs ks => isS_ints ks
  | .num _ => rfl
  | .base => rfl
  | .pow _ _ => rfl
  | .one _ _ => rfl
  | .kone _ _ _ => rfl
  | .two _ _ _ => rfl
theorem told_refs {K : PySem.W.Frag} {H : Hp} : ∀ {xs : List Str} {ys : List V}, Paired (fun _ y => Told4 K H y) (xs.map V.str) ys → ∃ ts : List Addr, ys = ts.map V.ref ∧ Paired (fun t (_ : Str) => ∃ m : M4, SqT K H t (mV m) ∧ m.ok) ts xs
  | [], _, h => by cases h; exact ⟨[], rfl, .nil⟩
  | x :: r, _, h => by
    cases h with
    | cons h1 h2 =>
      obtain ⟨t, m, rfl, q1, q2⟩ := h1
      obtain ⟨ts, rfl, q3⟩ := told_refs h2
      exact ⟨t :: ts, rfl, .cons ⟨m, q1, q2⟩ q3⟩
/-- some bool, whichever -/
def EvB (te : TE) (σ : L2.St) (H : Hp) : Prop := ∀ H1, Ex H H1 → ∀ Q : VK, (∀ b H2, Ex H1 H2 → Q (.bl b) H2) → te σ H1 Q
theorem q_asgB {te : TE} {tz : TS} {D : Ends} {σ : L2.St} {H : Hp} {i : Nat} (h : EvB te σ H) (k : ∀ b H1, Ex H H1 → tz D (σ.set i (some (.bl b))) H1) : tSeq (tAsg te (gName i)) tz D σ H := h H (Ex.refl H) _ fun b H2 e => k b H2 e
theorem eb_and {ta tb : TE} {σ : L2.St} {H : Hp} {a : Bool} (h1 : Ev ta σ H (.bl a)) (h2 : EvB tb σ H) : EvB (tAndV ta tb) σ H := fun H1 e Q q => h1 H1 e _ fun H2 e2 => ⟨a, rfl, by
  cases a with
  | true => exact h2 H2 (e.trans e2) Q fun b H3 e3 => q b H3 (e2.trans e3)
  | false => exact q false H2 e2⟩
theorem told_ms {K : PySem.W.Frag} {H : Hp} : ∀ {ts : List Addr} {xs : List Str}, Paired (fun t (_ : Str) => ∃ m : M4, SqT K H t (mV m) ∧ m.ok) ts xs → ∃ ms : List M4, Paired (fun t m => SqT K H t (mV m)) ts ms
  | [], _, h => ⟨[], .nil⟩
  | t :: r, _, h => by
    cases h with
    | cons h1 h2 =>
      obtain ⟨m, q1, _⟩ := h1
      obtain ⟨ms, q⟩ := told_ms h2
      exact ⟨m :: ms, .cons q1 q⟩
theorem ones_fm : ∀ bs : List Bool, ∃ n, ((bs.map fun b => if b = true then none else some (V.int 1)).filterMap id) = List.replicate n (V.int 1) ∧ n ≤ bs.length
  | [] => ⟨0, rfl, Nat.le_refl _⟩
  | b :: r => by
    obtain ⟨n, e, h⟩ := ones_fm r
    cases b with
    | true => exact ⟨n, e, Nat.le_succ_of_le h⟩
    | false => exact ⟨n + 1, congrArg (V.int 1 :: ·) e, Nat.succ_le_succ h⟩
theorem ones_ev {K : PySem.W.Frag} {σ : L2.St} {H : Hp} {D : Addr} {ts : List Addr} {xs : List Str} {j : Int} (bit : M4 → Bool) (hσ : σ[3]? = some (some (.ref D))) (hD : H D = some (.lst (ts.map V.ref))) (hts : Paired (fun t (_ : Str) => ∃ m : M4, SqT K H t (mV m) ∧ m.ok) ts xs) (hz : ts.length ≤ 2) (hj : ∀ m : M4, atI (mV m) j = some (.bl (bit m)))
    (hw : ∀ x, wipe ((wipe σ [12]).set 12 (some x)) [12] = wipe σ [12] ∧ ((wipe σ [12]).set 12 (some x))[12]? = some (some x)) :
    EvB (tOp (rEqD K) (tLc (iList K (tVar 3)) (gName 12) (tNot (tB (tOp (rIxT K) (tVar 12) (tC (V.int j))))) (tC (V.int 1)) [12]) (tLst tNil)) σ H := fun H1 e Q q => by
  obtain ⟨ms, hms⟩ := told_ms hts
  have lms := paired_len hms
  have c := el_lcLL (K := K) (tl := tVar 3) (g := gName 12) (tt := tNot (tB (tOp (rIxT K) (tVar 12) (tC (V.int j))))) (te := tC (V.int 1)) (vs := [12]) (σ := σ) (H := H) (xs := ts.map V.ref) ((ms.map bit).map fun b => if b = true then none else some (V.int 1)) (ev_var hσ) (sq_of hD) (by rw [List.length_map]; omega) (by rw [List.length_map, List.length_map, List.length_map]; omega) fun i x r hx hr => by
    rw [List.getElem?_map] at hx
    obtain ⟨t, ht, rfl⟩ := Option.map_eq_some_iff.mp hx
    rw [List.getElem?_map, List.getElem?_map] at hr
    obtain ⟨b, hb, rfl⟩ := Option.map_eq_some_iff.mp hr
    obtain ⟨m, hm, rfl⟩ := Option.map_eq_some_iff.mp hb
    have hsq := paired_get hms ht hm
    intro H2 e2 R kR
    refine ⟨(hw _).1, _, (hw _).2, _, _, _, _, rfl, rfl, ex_t e2 hsq, hj m, bit m, rfl, ?_⟩
    cases hb : bit m with
    | true => rw [hb] at kR; exact kR H2 (Ex.refl H2)
    | false => rw [hb] at kR; exact kR H2 (Ex.refl H2)
  obtain ⟨n, en, hn⟩ := ones_fm (ms.map bit)
  rw [List.length_map] at hn
  rw [en] at c
  dsimp only [tOp, tLst]
  refine c H1 e _ fun p H2 hp e2 h2 => ⟨Nat.zero_le _, fun q2 hq2 => ?_⟩
  have x3 := Ex.new (H := H2) (o := .lst []) hq2
  have hn2 : n ≤ 2 := by omega
  have all : DpAll K (upd H2 q2 (.lst [])) (List.replicate n (V.int 1)) (List.replicate n (.int 1)) := by
    clear en hn hn2 c h2
    induction n with
    | zero => exact .nil
    | succ n ih => exact .cons (.int 1) ih
  refine ⟨.list (List.replicate n (.int 1)), .list [], .lst (sq_of (x3 _ _ h2)) all, .lst (sq_of upd_same) .nil, ?_, rfl, q _ _ (e2.trans x3)⟩
  have z : n = 0 ∨ n = 1 ∨ n = 2 := by omega
  rcases z with rfl | rfl | rfl <;> rfl
def sp_lmeasure (K : PySem.W.Frag) (n : Nat) : SP0 := fun vs H Q => ∃ (ra a d : Addr) (ws : List V) (bs : List Lb) (e : Nat) (NS : List Str) (H0 : Hp), n = e + 1 ∧ vs = [.ref ra, .ref a] ∧ StAt K NS H0 H a d ∧ (SqL K H0 ra ws ∨ SqT K H0 ra ws) ∧ Paired (LbAt K H0) ws bs ∧ ((∀ b ∈ bs, b.wf NS) ∧ cntS bs ≤ 1000 ∧ NS.length ≤ 20 ∧ (e = 0 → onesB bs)) ∧ ∀ d' H', StAt K NS H0 H' a d' → Q .non H'
def sp_lbranch (K : PySem.W.Frag) (n : Nat) : SP0 := fun vs H Q => ∃ (v : V) (a d : Addr) (t : PT) (rs os : List L1) (e : Nat) (NS : List Str) (H0 : Hp), n = e + 1 ∧ vs = [v, .ref a] ∧ StAt K NS H0 H a d ∧ LbAt K H0 v (.ife t rs os) ∧ ((Lb.ife t rs os).wf NS ∧ cntB (.ife t rs os) ≤ 1000 ∧ NS.length ≤ 20) ∧ ∀ d' H', StAt K NS H0 H' a d' → Q .non H'
section
variable {P : Program} {w : World} {K : PySem.W.Frag} {mg : Str → Option Value} {base : Heap} {NS : List Str}
theorem measure_step (T : Txt w K mg) (n : Nat) (GM : FR P w K mg base (2 * n + 10) (a_law_measure K) (sp_lmeasure K n)) (GB : FR P w K mg base (2 * n + 11) (a_law_branch K) (sp_lbranch K n)) : FR P w K mg base (2 * n + 12) (a_law_measure K) (sp_lmeasure K (n + 1)) := by
  obtain ⟨fd, F⟩ := T.d_law_measure
  refine mkR F sc_law_measure (fun _ _ _ _ _ _ us hl => match us, hl with | [_, _], _ => rfl) (fun vs H Q h => by obtain ⟨ra, a, d, ws, bs, e, NS, H0, hne, rfl, m, hq, hp, ⟨wf, few, hn, hone⟩, k⟩ := h; rfl) fun cdv A outer s H vs Q E hr h => ?_
  obtain ⟨ra, a, d, ws, bs, e, NS, H0, hne, rfl, m, hq, hp, ⟨wf, few, hn, hone⟩, k⟩ := h
  refine ⟨_, (pss_one (ps_for PassesOwn.never rfl (kpi_any (K := K) rfl (pv 0)) (pg_name (i := 2) sc_law_measure.nd rfl (Or.inl rfl)) (pss_one (ps_if (pt_cmpR op_eq (pe_ix (kix_tup (K := K) rfl) (pv 2) pe_int (fun _ _ => rfl)) pe_str (nomark _)) (pss_cons (ps_setLc (i := 3) (own := [("_law_arg", 11)]) rfl sc_law_measure.nd rfl rfl (sw_true rfl rfl rfl (by decide +kernel)) (kpi_tup (K := K) rfl (pe_ix (kix_tup (K := K) rfl) (pv 2) pe_int (fun _ _ => rfl))) (blkOk_by (own := [("_law_arg", 11)]) (N := N_law_measure) (sc := defScope s_law_measure) (by decide +kernel)) (fun _ _ _ _ _ => (pg_name (i := 11) sc_law_measure.nd rfl (Or.inl rfl))) (fun _ _ _ _ _ => (pts_one (pt_val (pe_callB (kcall_isi (K := K) rfl) (by rfl) T.z_isinstance b_isinstance (pa_cons (pv 11) (pa_cons (pe_bltn (v := .ty "str") rfl T.z_str b_str rfl) pa_nil)))))) (fun _ _ _ _ _ => (pe_dget2 (hu_of hr) (pe_ix (kix_list (K := K) rfl) (pv 1) pe_int (fun _ _ => rfl)) (pv 11) (pe_tup (pa_cons pe_int (pa_cons pe_int (pa_cons pe_bl (pa_cons pe_bl pa_nil))))) (by exact ⟨by rfl, by rfl, by rfl, by rfl⟩))))
  (pss_cons (ps_asg (pe_callF (ok_law_measured (K := K) T) (hr.mono (by omega)) (by rfl) T.g_law_measured T.k_law_measured (pa_cons (pv 2) (pa_cons (pv 3) (pa_cons (pe_ix (kix_list (K := K) rfl) (pv 1) pe_int (fun _ _ => rfl)) pa_nil)))) (kpg_tup (K := K) (n := 3) rfl (by rfl) (pgs_cons (pg_name (i := 4) sc_law_measure.nd rfl (Or.inl rfl)) (pgs_cons (pg_name (i := 5) sc_law_measure.nd rfl (Or.inl rfl)) (pgs_cons (pg_name (i := 6) sc_law_measure.nd rfl (Or.inl rfl)) pgs_nil)))))
  (pss_cons (ps_par (i := 4) (j := 5) (by rfl) sc_law_measure.nd rfl rfl (by decide) rfl rfl (pa_cons (pe_callB (call_min2 rfl) (by rfl) T.z_min b_min (pa_cons (pe_callTy call_int1 (by rfl) T.z_int b_int (pa_cons (pv 4) pa_nil)) (pa_cons (pe_op op_pow pe_int pe_int) pa_nil))) (pa_cons (pe_callB (call_min2 rfl) (by rfl) T.z_min b_min (pa_cons (pe_callTy call_int1 (by rfl) T.z_int b_int (pa_cons (pv 5) pa_nil)) (pa_cons (pe_op op_pow pe_int pe_int) pa_nil))) pa_nil)) (by rfl))
  (pss_cons (ps_set (i := 7) sc_law_measure.nd rfl (Or.inl rfl) (pe_and (pe_cmpR (kop_notIn (K := K) rfl) (pe_ix (kix_tup (K := K) rfl) (pv 2) pe_int (fun _ _ => rfl)) (pe_tup (pa_cons pe_str (pa_cons pe_str (pa_cons pe_str pa_nil)))) (by rfl)) (pe_one (pe_cmpR (kop_eqD (K := K) rfl hr.units) (pe_lc (own := [("_law_one", 12)]) rfl sc_law_measure.nd (kpi_list (K := K) rfl (pv 3)) (blkOk_by (own := [("_law_one", 12)]) (N := N_law_measure) (sc := defScope s_law_measure) (by decide +kernel)) (fun _ _ _ _ _ => (pg_name (i := 12) sc_law_measure.nd rfl (Or.inl rfl))) (fun _ _ _ _ _ => (pts_one (pt_not (pt_val (pe_ix (kix_tup (K := K) rfl) (pv 12) pe_int (fun _ _ => rfl)))))) (fun _ _ _ _ _ => pe_int)) (pe_lst pa_nil) (nomark _)))))
  (pss_cons (ps_set (i := 8) sc_law_measure.nd rfl (Or.inl rfl) (pe_tup (pa_cons pe_str (pa_cons pe_str (pa_cons pe_str (pa_cons pe_str (pa_cons pe_str pa_nil)))))))
  (pss_cons (ps_set (i := 9) sc_law_measure.nd rfl (Or.inl rfl) (pe_and (pe_cmpR (kop_notIn (K := K) rfl) (pe_ix (kix_tup (K := K) rfl) (pv 2) pe_int (fun _ _ => rfl)) (pv 8) (by rfl)) (pe_one (pe_cmpR (kop_eqD (K := K) rfl hr.units) (pe_lc (own := [("_law_one", 12)]) rfl sc_law_measure.nd (kpi_list (K := K) rfl (pv 3)) (blkOk_by (own := [("_law_one", 12)]) (N := N_law_measure) (sc := defScope s_law_measure) (by decide +kernel)) (fun _ _ _ _ _ => (pg_name (i := 12) sc_law_measure.nd rfl (Or.inl rfl))) (fun _ _ _ _ _ => (pts_one (pt_not (pt_val (pe_ix (kix_tup (K := K) rfl) (pv 12) pe_int (fun _ _ => rfl)))))) (fun _ _ _ _ _ => pe_int)) (pe_lst pa_nil) (nomark _)))))
  (pss_cons (ps_dput (hu_of hr) (pe_ix (kix_list (K := K) rfl) (pv 1) pe_int (fun _ _ => rfl)) (pe_ix (kix_tup (K := K) rfl) (pv 2) pe_int (fun _ _ => rfl)) (pe_tup (pa_cons (pv 4) (pa_cons (pv 5) (pa_cons (pv 7) (pa_cons (pv 9) pa_nil))))) rfl)
  (pss_cons (ps_asg (pe_tup (pa_cons (pe_callF (ok_law_more (K := K) T) (hr.mono (by omega)) (by rfl) T.g_law_more T.k_law_more (pa_cons (pe_ix (kix_list (K := K) rfl) (pv 1) pe_int (fun _ _ => rfl)) (pa_cons (pv 4) pa_nil))) (pa_cons (pe_callF (ok_law_more (K := K) T) (hr.mono (by omega)) (by rfl) T.g_law_more T.k_law_more (pa_cons (pe_ix (kix_list (K := K) rfl) (pv 1) pe_int (fun _ _ => rfl)) (pa_cons (pv 5) pa_nil))) pa_nil))) (kpg_tup (K := K) (n := 2) rfl (by rfl) (pgs_cons (pg_sub (pv 1) pe_int set_list) (pgs_cons (pg_sub (pv 1) pe_int set_list) pgs_nil))))
  (pss_one (ps_asg (pe_callB (call_min2 rfl) (by rfl) T.z_min b_min (pa_cons (pe_callTy call_int1 (by rfl) T.z_int b_int (pa_cons (pe_op op_mul (pe_ix (kix_list (K := K) rfl) (pv 1) pe_int (fun _ _ => rfl)) (pv 6)) pa_nil)) (pa_cons (pe_op op_pow pe_int pe_int) pa_nil))) (pg_sub (pv 1) pe_int set_list))))))))))) (pss_one (ps_if (pt_cmpR op_eq (pe_ix (kix_tup (K := K) rfl) (pv 2) pe_int (fun _ _ => rfl)) pe_str (nomark _)) (pss_one (ps_for PassesOwn.never rfl (pi_range1 (by rfl) T.z_range (pa_cons (pe_ix (kix_tup (K := K) rfl) (pv 2) pe_int (fun _ _ => rfl)) pa_nil)) (pg_name (i := 10) sc_law_measure.nd rfl (Or.inl rfl)) (pss_one (ps_expr (pe_callF (GM) (hr.mono (by omega)) (by rfl) T.g_law_measure T.k_law_measure (pa_cons (pe_ix (kix_tup (K := K) rfl) (pv 2) pe_int (fun _ _ => rfl)) (pa_cons (pv 1) pa_nil))))))) (pss_one (ps_if (pt_cmpR op_eq (pe_ix (kix_tup (K := K) rfl) (pv 2) pe_int (fun _ _ => rfl)) pe_str (nomark _)) (pss_one (ps_expr (pe_callF (GB) (hr.mono (by omega)) (by rfl) T.g_law_branch T.k_law_branch (pa_cons (pv 2) (pa_cons (pv 1) pa_nil))))) pss_nil)))))))), ?_⟩
  obtain rfl : n = e := by omega
  refine for_any (K := K) (xs := ws) rfl hq m.ex (fun i σ' H' => ∃ (d' : Addr) (o2 o3 o4 o5 o6 o7 o8 o9 o10 o11 o12 : Option V), StAt K NS H0 H' a d' ∧ σ' = [some (.ref ra), some (.ref a), o2, o3, o4, o5, o6, o7, o8, o9, o10, o11, o12]) ⟨d, _, _, _, _, _, _, _, _, _, _, _, m, rfl⟩ (fun i σ' H' _ z => by obtain ⟨_, _, _, _, _, _, _, _, _, _, _, _, z, _⟩ := z; exact z.ex) (fun i x σ' H1 hx z => ?_) fun σ' H' z => ?_
  rotate_left
  · obtain ⟨d', _, _, _, _, _, _, _, _, _, _, _, z, hσ⟩ := z
    exact k d' H' z
  obtain ⟨d1, o2, o3, o4, o5, o6, o7, o8, o9, o10, o11, o12, m1, rfl⟩ := z
  obtain ⟨b, hb⟩ := get_of_len (ys := bs) hx (paired_len hp).symm
  have bm := List.mem_of_getElem? hb
  have hb0 := paired_get hp hx hb
  have hb1 := hb0.mono m1.ex
  have wb := wf b bm
  have cb := cnt_mem bm
  cases b with
  | one r =>
    cases r with
    | put y g =>
      obtain ⟨rr, gv, rfl, hr1, hg⟩ := hb1
      have wb : y ∈ NS ∧ g.wf NS := wb
      refine ⟨_, rfl, _, _, _, _, rfl, rfl, hr1, at0, rfl, _, rfl, iteS (fun _ => ?_) fun c => absurd rfl c⟩
      obtain ⟨l1, w1, p1, ha1, hp1⟩ := m1.ob
      obtain ⟨kv1, f1, n1, hf1⟩ := m1.dc
      refine ⟨_, rfl, _, _, _, _, rfl, rfl, hr1, atI_nat (j := 3) rfl, gv, rfl, ⟨_, hg⟩, fun D hD => ?_⟩
      have gl := given_few wb.2
      refine lc_good walk_tup hD (fun H' e => ex_t e hg) isS (fun H' _ y => Told4 K H' y) (fun h _ z => z.wr h) (fun e z => z.mono e) (by omega) (fun x hx H2 e2 => ⟨rfl, ?_, fun hs H3 e3 R kR => ?_⟩) fun ys H2 e2 hD2 hpy => ?_
      · rcases given_kind hx with ⟨z, rfl⟩ | ⟨z, rfl⟩
        · exact fun H3 e3 Q3 q3 => ⟨_, rfl, _, _, _, _, false, rfl, .ty "str", .base (.int z), kit_ty (by decide +kernel), false, rfl, q3 H3 (Ex.refl _)⟩
        · exact fun H3 e3 Q3 q3 => ⟨_, rfl, _, _, _, _, true, rfl, .ty "str", .base (.str z), kit_ty (by decide +kernel), true, rfl, q3 H3 (Ex.refl _)⟩
      · rcases given_kind hx with ⟨z, rfl⟩ | ⟨z, rfl⟩
        · cases hs
        · have e23 := e2.trans e3
          have n3 := n1.mono e23
          refine ⟨_, rfl, _, _, _, _, rfl, rfl, sq_of (e23 _ _ ha1), at0, d1, rfl, .inl ⟨kv1, .inl n3.at_⟩, _, rfl, (show 4 ≤ sizeLine by decide), fun t ht => ?_⟩
          have x4 := Ex.new (H := H3) (o := .tup [V.int 1, V.int 1, V.bl true, V.bl true]) ht
          have n4 := n3.mono x4
          exact ⟨_, DGet.k (k := Sum.inr z) n4.at_, kR _ _ x4 (get4 n4 hf1 (SqT.of upd_same) z)⟩
      rw [given_isS] at hpy
      obtain ⟨ts, rfl, hts⟩ := told_refs hpy
      have m2 := m1.mono e2
      refine ⟨_, rfl, _, rfl, _, rfl, _, _, _, _, rfl, rfl, sq_of (e2 _ _ ha1), atI_nat (j := 3) rfl, rr, D, p1, y, g, NS, ts, rfl, ⟨rr, gv, rfl, ex_t e2 hr1, ex_t e2 hg⟩, wb.2, ⟨hD2, hts⟩, hp1, fun q x1 y1 z1 H3 hpos e3 sq => ?_⟩
      refine ⟨q, _, rfl, sq, rfl, _, _, rfl, _, _, rfl, _, _, rfl, rfl, ?_⟩
      refine ⟨_, rfl, .inl ⟨_, rfl, _, _, rfl, rfl, ⟨by decide, by decide, by decide⟩, _, _, rfl, _, rfl, .inl ⟨_, rfl, _, _, rfl, rfl, ⟨by decide, by decide, by decide⟩, _, _, rfl, _, _, rfl, ?_⟩⟩⟩
      have m3 := m2.mono e3
      have e23 := e2.trans e3
      have hr3 := ex_t e23 hr1
      have hD3 := e3 _ _ hD2
      have hts3 := Paired.mapP hts fun t (y : Str) z => (let ⟨m, h1, h2⟩ := z; ⟨m, ex_t e3 h1, h2⟩ : ∃ m : M4, SqT K H3 t (mV m) ∧ m.ok)
      have lts : ts.length ≤ 2 := by
        have l1 := paired_len hts
        have l2 := names_few g
        omega
      have cx := min6 hpos.1
      have cy := min6 hpos.2.1
      generalize (if (10 : Int) ^ (6 : Int).toNat < x1 then (10 : Int) ^ (6 : Int).toNat else x1) = x2 at cx ⊢
      generalize (if (10 : Int) ^ (6 : Int).toNat < y1 then (10 : Int) ^ (6 : Int).toNat else y1) = y2 at cy ⊢
      refine q_asgB (eb_and (ev_niU (xs := [V.str "//", V.str "rest", V.str "common"]) (ev_op (ev_var rfl) ev_c (rv_ixT hr3 (atI_nat (j := 2) rfl))) (eu_tup (ea_cons ev_c (ea_cons ev_c (ea_cons ev_c ea_nil))) (by decide)) rfl rfl) (ones_ev (fun m => m.2.2.1) rfl hD3 hts3 lts (fun m => atI_nat (j := 2) rfl) fun x => ⟨rfl, rfl⟩)) fun b7 H4 e4 => ?_
      refine q_asgU (xs := [V.str "turned", V.str "least", V.str "greatest", V.str "first", V.str "last"]) (eu_tup (ea_cons ev_c (ea_cons ev_c (ea_cons ev_c (ea_cons ev_c (ea_cons ev_c ea_nil))))) (by decide)) fun p8 H5 hp8 e5 h5 => ?_
      have e45 := e4.trans e5
      refine q_asgB (eb_and (ev_op (ev_op (ev_var rfl) ev_c (rv_ixT (ex_t e45 hr3) (atI_nat (j := 2) rfl))) (ev_var rfl) (rv_niT (SqT.of h5) rfl rfl)) (ones_ev (fun m => m.2.2.2) rfl (e45 _ _ hD3) (Paired.mapP hts3 fun t (y : Str) z => (let ⟨m, h1, h2⟩ := z; ⟨m, ex_t e45 h1, h2⟩ : ∃ m : M4, SqT K H5 t (mV m) ∧ m.ok)) lts (fun m => atI_nat (j := 3) rfl) fun x => ⟨rfl, rfl⟩)) fun b9 H6 e6 => ?_
      have m6 := m3.mono (e45.trans e6)
      have hr6 := ex_t (e45.trans e6) hr3
      obtain ⟨l6, w6, p6, ha6, hp6⟩ := m6.ob
      obtain ⟨kv6, f6, n6, hf6⟩ := m6.dc
      refine ⟨_, rfl, _, rfl, _, rfl, _, rfl, (show 4 ≤ sizeLine by decide), fun t ht => ?_⟩
      have x7 := Ex.new (H := H6) (o := .tup [V.int x2, V.int y2, V.bl b7, V.bl b9]) ht
      have m7 := m6.mono x7
      have n7 := n6.mono x7
      refine ⟨_, rfl, _, _, _, _, rfl, rfl, sq_of (x7 _ _ ha6), at0, _, rfl, _, _, _, _, rfl, rfl, ex_t x7 hr6, at1, d1, _, rfl, DPut.k (k := Sum.inr y) n7.at_ (small1000 (by have := n7.few; omega)), ?_⟩
      have m8 := m7.putN (q := (x2, y2, b7, b9)) n7 hf6 wb.1 (SqT.of upd_same) ⟨cx, cy⟩
      generalize upd (upd H6 t (.tup [V.int x2, V.int y2, V.bl b7, V.bl b9])) d1 (.dK (putK kv6 (Sum.inr y) (.ref t))) = H8 at m8 ⊢
      obtain ⟨l8, w8, p8', ha8, hp8'⟩ := m8.ob
      refine ⟨_, rfl, _, _, _, _, rfl, rfl, sq_of ha8, at1, _, rfl, _, _, rfl, _, rfl, _, _, _, _, rfl, rfl, sq_of ha8, atI_nat (j := 2) rfl, _, rfl, _, _, rfl, sz2, fun u hu => ?_⟩
      have x9 := Ex.new (H := H8) (o := .tup [V.int (gr l8 x2), V.int (gr w8 y2)]) hu
      have m9 := m8.mono x9
      refine ⟨u, _, rfl, SqT.of upd_same, rfl, _, _, rfl, _, rfl, a, _, 1, 1, rfl, rfl, x9 _ _ ha8, rfl, _, _, rfl, ?_⟩
      refine ⟨_, rfl, a, _, 2, 2, rfl, rfl, upd_same, rfl, rfl, ?_⟩
      have m10 : StAt K NS H0 (upd (upd (upd H8 u (.tup [V.int (gr l8 x2), V.int (gr w8 y2)])) a (.lst ([V.ref d1, V.int l8, V.int w8, V.int p8'].set 1 (V.int (gr l8 x2))))) a (.lst (([V.ref d1, V.int l8, V.int w8, V.int p8'].set 1 (V.int (gr l8 x2))).set 2 (V.int (gr w8 y2))))) a d1 := (m9.set (l := gr l8 x2) (w := w8) hp8').set (l := gr l8 x2) (w := gr w8 y2) hp8'
      refine ⟨_, rfl, _, _, _, _, rfl, rfl, sq_of upd_same, atI_nat (j := 3) rfl, _, rfl, _, _, rfl, rfl, (.inl ⟨show -(2 ^ 64) < p8' by omega, show p8' < 2 ^ 64 by omega⟩), .inl ⟨_, rfl, _, _, rfl, rfl, ⟨by decide, by decide, by decide⟩, _, _, rfl, _, rfl, a, _, 3, 3, rfl, rfl, upd_same, rfl, ?_⟩⟩
      exact ⟨d1, _, _, _, _, _, _, _, _, _, _, _, m10.set (min6 (mul1 hp8'.1 hpos.2.2)), rfl⟩
    | stop =>
      obtain ⟨rr, rfl, hr1⟩ := hb1
      refine ⟨_, rfl, _, _, _, _, rfl, rfl, hr1, at0, rfl, _, rfl, iteS (fun c => absurd c (by decide +kernel)) fun _ => ?_⟩
      refine ⟨_, rfl, _, _, _, _, rfl, rfl, hr1, at0, rfl, _, rfl, iteS (fun c => absurd c (by decide +kernel)) fun _ => ?_⟩
      refine ⟨_, rfl, _, _, _, _, rfl, rfl, hr1, at0, rfl, _, rfl, iteS (fun c => absurd c (by decide +kernel)) fun _ => ?_⟩
      exact ⟨d1, _, _, _, _, _, _, _, _, _, _, _, m1, rfl⟩
  | times c rs =>
    obtain ⟨n', rfl⟩ : ∃ n', n = n' + 1 := by
      cases n with
      | zero =>
        obtain ⟨q, rfl⟩ := hone rfl
        obtain ⟨r, _, h⟩ := List.mem_map.mp bm
        cases h
      | succ n' => exact ⟨n', rfl⟩
    obtain ⟨rr, t1, vs1, rfl, hr0, ht0, hp0⟩ := hb0
    have wb : c ≤ 4 ∧ ∀ r ∈ rs, r.wf NS := wb
    have cb : 1 + rs.length ≤ cntS bs := cb
    have hr1 := ex_t m1.ex hr0
    refine ⟨_, rfl, _, _, _, _, rfl, rfl, hr1, at0, rfl, _, rfl, iteS (fun c => absurd c (by decide +kernel)) fun _ => ?_⟩
    refine ⟨_, rfl, _, _, _, _, rfl, rfl, hr1, at0, rfl, _, rfl, iteS (fun _ => ?_) fun c => absurd rfl c⟩
    refine ⟨_, rfl, _, _, _, _, rfl, rfl, hr1, at1, (c : Int), rfl, by omega, by omega, ?_⟩
    refine for_it walk_range (fun i σ' H' => ∃ (d' : Addr) (o10 : Option V), StAt K NS H0 H' a d' ∧ σ' = [some (.ref ra), some (.ref a), some (.ref rr), o3, o4, o5, o6, o7, o8, o9, o10, o11, o12]) ⟨d1, _, m1, rfl⟩ (fun _ _ _ _ _ => trivial) (fun i x σ' H2 H3 hi z yx => ?_) fun σ' H' z => ?_
    · obtain ⟨d2, o10, m2, rfl⟩ := z
      obtain ⟨rfl, rfl⟩ := yx
      refine ⟨_, rfl, _, _, _, _, rfl, rfl, ex_t m2.ex hr0, atI_nat (j := 2) rfl, _, rfl, t1, a, d2, vs1, rs.map Lb.one, n', NS, H0, rfl, rfl, m2, .inr ht0, lb_of_ones hp0, ⟨fun z hz => ?_, by rw [cntS_ones]; omega, hn, fun _ => ⟨rs, rfl⟩⟩, fun d3 H4 m3 => ⟨d3, _, m3, rfl⟩⟩
      obtain ⟨r, hr, rfl⟩ := List.mem_map.mp hz
      exact wb.2 r hr
    · obtain ⟨d2, o10, m2, rfl⟩ := z
      exact ⟨d2, _, _, _, _, _, _, _, _, _, _, _, m2, rfl⟩
  | ife t rs os =>
    obtain ⟨n', rfl⟩ : ∃ n', n = n' + 1 := by
      cases n with
      | zero =>
        obtain ⟨q, rfl⟩ := hone rfl
        obtain ⟨r, _, h⟩ := List.mem_map.mp bm
        cases h
      | succ n' => exact ⟨n', rfl⟩
    have hb0' := hb0
    obtain ⟨rr, u, t1, t2, vs1, vs2, rfl, hr0, hu, _⟩ := hb0'
    have hr1 := ex_t m1.ex hr0
    refine ⟨_, rfl, _, _, _, _, rfl, rfl, hr1, at0, rfl, _, rfl, iteS (fun c => absurd c (by decide +kernel)) fun _ => ?_⟩
    refine ⟨_, rfl, _, _, _, _, rfl, rfl, hr1, at0, rfl, _, rfl, iteS (fun c => absurd c (by decide +kernel)) fun _ => ?_⟩
    refine ⟨_, rfl, _, _, _, _, rfl, rfl, hr1, at0, rfl, _, rfl, iteS (fun _ => ?_) fun c => absurd rfl c⟩
    exact ⟨_, rfl, _, rfl, _, a, d1, t, rs, os, n', NS, H0, rfl, rfl, m1, hb0, ⟨wb, by omega, hn⟩, fun d3 H4 m3 => ⟨d3, _, _, _, _, _, _, _, _, _, _, _, m3, rfl⟩⟩
end
end E97
set_option Elab.async false
set_option linter.all false
set_option maxRecDepth 100000
set_option maxHeartbeats 4000000
/-! P27: the law's own measures: blocks -/
namespace E97
open PySem PySem.Spec PyProof.Rows L2 Evl NdefX
section
variable {K : PySem.W.Frag} {NS : List Str} {H0 H H' : Hp} {a d d' b : Addr}
theorem StAt.keepN (m : StAt K NS H0 H a d) {kvs : List (Key × V)} {f : Str → M4} (n : NowAt K NS H b kvs f) (h1 : b ≠ a) (h2 : b ≠ d) : NowAt K NS (rm2 H a d) b kvs f :=
  ⟨rm2_of n.at_ h1 h2, n.nd, n.ks, fun x v h => let ⟨t, e1, e2⟩ := n.get x v h; ⟨t, e1, m.keepT e2⟩, n.no⟩
theorem StAt.down {H1 : Hp} (e : Ex H1 H0) (m : StAt K NS H0 H a d) : StAt K NS H1 H a d := ⟨e.trans m.ex, fresh_back e m.fr, fresh_back e m.frd, m.ob, m.dc⟩
/-- another dict takes the place -/
theorem StAt.swap (m : StAt K NS H0 H a d) {kvs : List (Key × V)} {f : Str → M4} {l w p : Int} (n : NowAt K NS H b kvs f) (hf : ∀ x, (f x).ok) (hb : H0 b = none) (hp : 1 ≤ p ∧ p ≤ 1000000) : StAt K NS H0 (upd H a (.lst [.ref b, .int l, .int w, .int p])) a b := by
  obtain ⟨l0, w0, p0, ha, _⟩ := m.ob
  exact ⟨m.ex.mut m.fr, m.fr, hb, ⟨l, w, p, upd_same, hp⟩, ⟨kvs, f, n.lst ha, hf⟩⟩
end
theorem q_asgBB {ta tb : TE} {tz : TS} {D : Ends} {σ : L2.St} {H : Hp} {i : Nat} (h1 : EvB ta σ H) (h2 : EvB tb σ H) (k : ∀ b1 b2 p H1, Ex H H1 → H1 p = some (.tup [.bl b1, .bl b2]) → tz D (σ.set i (some (.ref p))) H1) : tSeq (tAsg (tTup (tCons ta (tCons tb tNil))) (gName i)) tz D σ H :=
  h1 H (Ex.refl H) _ fun b1 H1 e1 => h2 H1 e1 _ fun b2 H2 e2 => ⟨sz2, fun p hp => k b1 b2 p _ ((e1.trans e2).trans (Ex.new hp)) upd_same⟩
theorem keys_strs {NS : List Str} : ∀ {kvs : List (Key × V)}, (∀ k ∈ kvs.map (·.1), ∃ x ∈ NS, k = Sum.inr x) → ∃ xs : List Str, (kvs.map fun kv => kV kv.1) = xs.map V.str ∧ (∀ x ∈ xs, x ∈ NS) ∧ xs.length = kvs.length
  | [], _ => ⟨[], rfl, fun _ h => (nomatch h), rfl⟩
  | kv :: r, h => by
    obtain ⟨x, hx, e⟩ := h kv.1 List.mem_cons_self
    obtain ⟨xs, e2, h2, h3⟩ := keys_strs fun k hk => h k (List.mem_cons_of_mem _ hk)
    refine ⟨x :: xs, ?_, fun z hz => ?_, congrArg Nat.succ h3⟩
    · rw [List.map_cons, e2, e]
      rfl
    · rcases List.mem_cons.mp hz with rfl | hz
      · exact hx
      · exact h2 z hz
section
variable {P : Program} {w : World} {K : PySem.W.Frag} {mg : Str → Option Value} {base : Heap} {NS : List Str}
theorem branch_stepL (T : Txt w K mg) (n : Nat) (GS : FR P w K mg base (n + 2) (a_law_set_in K) (sp_lset_in K (n + 1))) (GM : FR P w K mg base (2 * n + 10) (a_law_measure K) (sp_lmeasure K n)) : FR P w K mg base (2 * n + 11) (a_law_branch K) (sp_lbranch K n) := by
  obtain ⟨fd, F⟩ := T.d_law_branch
  refine mkR F sc_law_branch (fun _ _ _ _ _ _ us hl => match us, hl with | [_, _], _ => rfl) (fun vs H Q h => by obtain ⟨v, a, d, t, rs, os, e, NS, H0, hne, rfl, m, hb, ⟨wb, cb, hn⟩, k⟩ := h; rfl) fun cdv A outer s H vs Q E hr h => ?_
  obtain ⟨v, a, d, t, rs, os, e, NS, H0, hne, rfl, m, hb, ⟨wb, cb, hn⟩, k⟩ := h
  refine ⟨_, (pss_cons (ps_asg (pe_callF (ok_law_ask_period (K := K) T) (hr.mono (by omega)) (by rfl) T.g_law_ask_period T.k_law_ask_period (pa_cons (pe_ix (kix_tup (K := K) rfl) (pv 0) pe_int (fun _ _ => rfl)) (pa_cons (pe_ix (kix_list (K := K) rfl) (pv 1) pe_int (fun _ _ => rfl)) (pa_cons (pe_ix (kix_list (K := K) rfl) (pv 1) pe_int (fun _ _ => rfl)) pa_nil)))) (pg_sub (pv 1) pe_int set_list))
  (pss_cons (ps_set (i := 2) sc_law_branch.nd rfl (Or.inl rfl) (pe_callTy call_dictD (by rfl) T.z_dict b_dict (pa_cons (pe_ix (kix_list (K := K) rfl) (pv 1) pe_int (fun _ _ => rfl)) pa_nil)))
  (pss_cons (ps_expr (pe_callF (GM) (hr.mono (by omega)) (by rfl) T.g_law_measure T.k_law_measure (pa_cons (pe_ix (kix_tup (K := K) rfl) (pv 0) pe_int (fun _ _ => rfl)) (pa_cons (pv 1) pa_nil))))
  (pss_cons (ps_asg (pe_tup (pa_cons (pe_ix (kix_list (K := K) rfl) (pv 1) pe_int (fun _ _ => rfl)) (pa_cons (pv 2) pa_nil))) (kpg_tup (K := K) (n := 2) rfl (by rfl) (pgs_cons (pg_name (i := 3) sc_law_branch.nd rfl (Or.inl rfl)) (pgs_cons (pg_sub (pv 1) pe_int set_list) pgs_nil))))
  (pss_cons (ps_expr (pe_callF (GM) (hr.mono (by omega)) (by rfl) T.g_law_measure T.k_law_measure (pa_cons (pe_ix (kix_tup (K := K) rfl) (pv 0) pe_int (fun _ _ => rfl)) (pa_cons (pv 1) pa_nil))))
  (pss_one (ps_for PassesOwn.never rfl (kpi_list (K := K) rfl (pe_op op_cat (pe_callTy (call_list_dK rfl) (by rfl) T.z_list b_list (pa_cons (pv 3) pa_nil)) (pe_callF (GS) (hr.mono (by omega)) (by rfl) T.g_law_set_in T.k_law_set_in (pa_cons (pe_lst (pa_cons (pv 0) pa_nil)) pa_nil)))) (pg_name (i := 4) sc_law_branch.nd rfl (Or.inl rfl)) (pss_cons (ps_par (i := 5) (j := 6) (by rfl) sc_law_branch.nd rfl rfl (by decide) rfl rfl (pa_cons (pe_dget2 (hu_of hr) (pv 3) (pv 4) (pe_tup (pa_cons pe_int (pa_cons pe_int (pa_cons pe_bl (pa_cons pe_bl pa_nil))))) (by exact ⟨by rfl, by rfl, by rfl, by rfl⟩)) (pa_cons (pe_dget2 (hu_of hr) (pe_ix (kix_list (K := K) rfl) (pv 1) pe_int (fun _ _ => rfl)) (pv 4) (pe_tup (pa_cons pe_int (pa_cons pe_int (pa_cons pe_bl (pa_cons pe_bl pa_nil))))) (by exact ⟨by rfl, by rfl, by rfl, by rfl⟩)) pa_nil)) (by rfl))
  (pss_cons (ps_set (i := 7) sc_law_branch.nd rfl (Or.inl rfl) (pe_tup (pa_cons (pe_and (pe_ix (kix_tup (K := K) rfl) (pv 5) pe_int (fun _ _ => rfl)) (pe_one (pe_cmpR (kop_notIn (K := K) rfl) (pv 4) (pe_callF (GS) (hr.mono (by omega)) (by rfl) T.g_law_set_in T.k_law_set_in (pa_cons (pe_lst (pa_cons (pv 0) pa_nil)) pa_nil)) (by rfl)))) (pa_cons (pe_and (pe_ix (kix_tup (K := K) rfl) (pv 5) pe_int (fun _ _ => rfl)) (pe_one (pe_ix (kix_tup (K := K) rfl) (pv 6) pe_int (fun _ _ => rfl)))) pa_nil))))
  (pss_one (ps_dput (hu_of hr) (pe_ix (kix_list (K := K) rfl) (pv 1) pe_int (fun _ _ => rfl)) (pv 4) (pe_op (kop_catA (K := K) rfl) (pe_tup (pa_cons (pe_callF (ok_law_more (K := K) T) (hr.mono (by omega)) (by rfl) T.g_law_more T.k_law_more (pa_cons (pe_ix (kix_tup (K := K) rfl) (pv 5) pe_int (fun _ _ => rfl)) (pa_cons (pe_ix (kix_tup (K := K) rfl) (pv 6) pe_int (fun _ _ => rfl)) pa_nil))) (pa_cons (pe_callF (ok_law_more (K := K) T) (hr.mono (by omega)) (by rfl) T.g_law_more T.k_law_more (pa_cons (pe_ix (kix_tup (K := K) rfl) (pv 5) pe_int (fun _ _ => rfl)) (pa_cons (pe_ix (kix_tup (K := K) rfl) (pv 6) pe_int (fun _ _ => rfl)) pa_nil))) pa_nil))) (pv 7)) rfl))))))))))), ?_⟩
  have hb' := hb
  obtain ⟨rr, u, t1, t2, vs1, vs2, rfl, hr0, hu, ⟨ht1, hp1⟩, ht2, hp2⟩ := hb
  have wb' : t.wf NS 4 ∧ (∀ r ∈ rs, r.wf NS) ∧ ∀ r ∈ os, r.wf NS := wb
  have cb : 1 + (rs.length + os.length) ≤ 1000 := cb
  obtain ⟨l0, w0, p0, ha, hp0⟩ := m.ob
  obtain ⟨kv0, f0, n0, hf0⟩ := m.dc
  have hr1 := ex_t m.ex hr0
  refine ⟨_, rfl, _, _, _, _, rfl, rfl, hr1, at1, _, rfl, _, _, _, _, rfl, rfl, sq_of ha, at0, _, rfl, _, _, _, _, rfl, rfl, sq_of ha, atI_nat (j := 3) rfl, u, t, d, p0, NS, kv0, f0, rfl, hu.mono m.ex, wb'.1, ⟨n0, hf0⟩, hp0, fun i H1 hi e1 => ?_⟩
  refine ⟨_, rfl, a, _, 3, 3, rfl, rfl, e1 _ _ ha, rfl, ?_⟩
  have m1 : StAt K NS H0 (upd H1 a (.lst ([V.ref d, V.int l0, V.int w0, V.int p0].set 3 (V.int i)))) a d := (m.mono e1).set (l := l0) (w := w0) hi
  generalize upd H1 a (.lst ([V.ref d, V.int l0, V.int w0, V.int p0].set 3 (V.int i))) = H2 at m1 ⊢
  obtain ⟨l1, w1, p1, ha1, hp1'⟩ := m1.ob
  obtain ⟨kv1, f1, n1, hf1⟩ := m1.dc
  -- before
  refine ⟨_, rfl, _, _, _, _, rfl, rfl, sq_of ha1, at0, d, kv1, rfl, .inl n1.at_, fun b hb => ?_⟩
  have eb := Ex.new (H := H2) (o := .dK kv1) hb
  have m2 := m1.mono eb
  have nb : NowAt K NS (upd H2 b (.dK kv1)) b kv1 f1 := { n1.mono eb with at_ := upd_same }
  have ba : b ≠ a := (ne_of_none ha1 hb).symm
  have bd : b ≠ d := (ne_of_none n1.at_ hb).symm
  have hb0 : H0 b = none := fresh_back m1.ex hb
  refine ⟨_, rfl, _, _, _, _, rfl, rfl, ex_t m2.ex hr0, atI_nat (j := 2) rfl, _, rfl, t1, a, d, vs1, rs.map Lb.one, e, NS, _, hne, rfl, m2.big, .inr (ex_t m2.sub ht1), lb_of_ones (Paired.mapP hp1 fun _ _ z => z.mono m2.sub), ⟨fun z hz => ?_, by rw [cntS_ones]; omega, hn, fun _ => ⟨rs, rfl⟩⟩, fun d3 H3 m3' => ?_⟩
  · obtain ⟨r, hr, rfl⟩ := List.mem_map.mp hz
    exact wb'.2.1 r hr
  have m3 := m2.back m3'
  have nb3 := (m2.keepN nb ba bd).mono m3'.ex
  have d3b : d3 ≠ b := fun e => by
    have z := m3'.frd
    rw [e, rm2_of nb.at_ ba bd] at z
    cases z
  obtain ⟨l3, w3, p3, ha3, hp3⟩ := m3.ob
  obtain ⟨kv3, f3, n3, hf3⟩ := m3.dc
  -- one, state[0]
  refine ⟨_, rfl, _, _, _, _, rfl, rfl, sq_of ha3, at0, _, rfl, sz2, fun q hq => ?_⟩
  have xq := Ex.new (H := H3) (o := .tup [V.ref d3, V.ref b]) hq
  refine ⟨q, _, rfl, SqT.of upd_same, rfl, _, _, rfl, _, _, rfl, _, rfl, a, _, 0, 0, rfl, rfl, xq _ _ ha3, rfl, rfl, ?_⟩
  have m4 : StAt K NS H0 (upd (upd H3 q (.tup [V.ref d3, V.ref b])) a (.lst ([V.ref d3, V.int l3, V.int w3, V.int p3].set 0 (V.ref b)))) a b := (m3.mono xq).swap (l := l3) (w := w3) (nb3.mono xq) hf1 hb0 hp3
  have n34 : NowAt K NS (upd (upd H3 q (.tup [V.ref d3, V.ref b])) a (.lst ([V.ref d3, V.int l3, V.int w3, V.int p3].set 0 (V.ref b)))) d3 kv3 f3 := (n3.mono xq).lst (xq _ _ ha3)
  have d3a : d3 ≠ a := m3.nda
  generalize upd (upd H3 q (.tup [V.ref d3, V.ref b])) a (.lst ([V.ref d3, V.int l3, V.int w3, V.int p3].set 0 (V.ref b))) = H4 at m4 n34 ⊢
  refine ⟨_, rfl, _, _, _, _, rfl, rfl, ex_t m4.ex hr0, atI_nat (j := 3) rfl, _, rfl, t2, a, b, vs2, os.map Lb.one, e, NS, _, hne, rfl, m4.big, .inr (ex_t m4.sub ht2), lb_of_ones (Paired.mapP hp2 fun _ _ z => z.mono m4.sub), ⟨fun z hz => ?_, by rw [cntS_ones]; omega, hn, fun _ => ⟨os, rfl⟩⟩, fun d6 H6 m6' => ?_⟩
  · obtain ⟨r, hr, rfl⟩ := List.mem_map.mp hz
    exact wb'.2.2 r hr
  have m6 := m4.back m6'
  have n36 := (m4.keepN n34 d3a d3b).mono m6'.ex
  have d63 : d3 ≠ d6 := fun e => by
    have z := m6'.frd
    rw [← e, rm2_of n34.at_ d3a d3b] at z
    cases z
  -- the names
  refine ⟨_, rfl, d3, kv3, rfl, n36.at_, fun l hl => ?_⟩
  obtain ⟨ks, eks, hks, lks⟩ := keys_strs n36.ks
  rw [eks]
  have x7 := Ex.new (H := H6) (o := .lst (ks.map V.str)) hl
  have m7 := m6.mono x7
  have lbr : ∀ {HH : Hp}, Ex H0 HH → ∀ q, HH q = none → Paired (LbAt K (upd HH q (.lst [V.ref rr]))) [V.ref rr] [Lb.ife t rs os] := fun eh q hq => .cons (hb'.mono (eh.trans (Ex.new hq))) .nil
  have cs1 : cntS [Lb.ife t rs os] ≤ 1000 := by
    show (1 + (rs.length + os.length)) + 0 ≤ 1000
    omega
  have lst1 : ∀ (σ : L2.St) (H7 : Hp), σ[0]? = some (some (.ref rr)) → Ex H0 H7 → ∀ R : VK, (∀ p (xs : List Str) H', H7 p = none → Ex H7 H' → H' p = some (.lst (xs.map V.str)) → (∀ x ∈ xs, x ∈ NS) → xs.length ≤ 1000 → R (.ref p) H') → tCallF (sp_lset_in K (n + 1)) (tCons (tLst (tCons (tVar 0) tNil)) tNil) σ H7 R := fun σ H7 hσ e7 R kR =>
    ⟨_, hσ, (show 1 ≤ sizeLine by decide), fun q hq => ⟨q, [V.ref rr], [Lb.ife t rs os], n, NS, rfl, rfl, .inl (sq_of upd_same), lbr e7 q hq, ⟨⟨fun z hz => by rw [List.mem_singleton.mp hz]; exact wb, cs1⟩, fun h => absurd h (by omega)⟩, fun p xs H' hp e h g => kR p xs H' (fresh_back (Ex.new hq) hp) ((Ex.new hq).trans e) h g.1 (Nat.le_trans g.2 cs1)⟩⟩
  refine lst1 _ _ rfl m7.ex _ fun p xs H8 hp8 e8 h8 hxs lxs => ?_
  have lk20 : ks.length ≤ 20 := by rw [lks]; have := n36.few; omega
  refine ⟨l, p, _, _, rfl, rfl, e8 _ _ upd_same, h8, Nat.le_trans (show _ ≤ 2000 by rw [List.length_map, List.length_map]; omega) (by decide), fun r hr => ?_⟩
  have x9 := Ex.new (H := H8) (o := .lst (ks.map V.str ++ xs.map V.str)) hr
  have m9 := (m7.mono e8).mono x9
  have n39 := ((n36.mono x7).mono e8).mono x9
  have hr9 : (upd H8 r (.lst (ks.map V.str ++ xs.map V.str))) r = some (.lst (ks.map V.str ++ xs.map V.str)) := upd_same
  have hin : ∀ x ∈ ks ++ xs, x ∈ NS := fun x hx => (List.mem_append.mp hx).elim (hks x) (hxs x)
  obtain ⟨l8, w8, p8, ha8, _⟩ := (m7.mono e8).ob
  obtain ⟨kv8, f8, n8, _⟩ := (m7.mono e8).dc
  have ra : r ≠ a := (ne_of_none ha8 hr).symm
  have rd : r ≠ d6 := (ne_of_none n8.at_ hr).symm
  rw [← List.map_append]
  rw [← List.map_append] at x9 m9 n39 hr9
  generalize upd H8 r (.lst ((ks ++ xs).map V.str)) = H9 at x9 m9 n39 hr9 ⊢
  have hrc : rm2 H9 a d6 r = some (.lst ((ks ++ xs).map V.str)) := rm2_of hr9 ra rd
  have n3c := m9.keepN n39 d3a d63
  have sb := m9.sub
  have hrrc := ex_t sb hr0
  have mb := m9.big
  generalize rm2 H9 a d6 = Hc at hrc n3c sb hrrc mb
  refine ⟨r, rfl, ⟨_, sq_of (mb.ex _ _ hrc)⟩, for_list (xs := (ks ++ xs).map V.str) (fun i σ' H' => ∃ (d7 : Addr) (o4 o5 o6 o7 : Option V), StAt K NS Hc H' a d7 ∧ σ' = [some (.ref rr), some (.ref a), some (.ref b), some (.ref d3), o4, o5, o6, o7]) ⟨d6, _, _, _, _, mb, rfl⟩ (fun i σ' H' _ z => by obtain ⟨_, _, _, _, _, z, _⟩ := z; exact sq_of (z.ex _ _ hrc)) (fun i x σ' H1 hx z => ?_) fun σ' H' z => ?_⟩
  rotate_left
  · obtain ⟨d7, _, _, _, _, z, _⟩ := z
    exact k d7 H' (z.down sb)
  obtain ⟨d7, o4, o5, o6, o7, mm, rfl⟩ := z
  rw [List.getElem?_map] at hx
  obtain ⟨y, hy, rfl⟩ := Option.map_eq_some_iff.mp hx
  have hyN := hin y (List.mem_of_getElem? hy)
  obtain ⟨la, wa, pa, haa, hpa⟩ := mm.ob
  obtain ⟨kv7, f7, n7, hf7⟩ := mm.dc
  have n31 := n3c.mono mm.ex
  refine ⟨_, rfl, d3, rfl, .inl ⟨kv3, .inl n31.at_⟩, _, rfl, (show 4 ≤ sizeLine by decide), fun u1 hu1 => ?_⟩
  have y1 := Ex.new (H := H1) (o := .tup [V.int 1, V.int 1, V.bl true, V.bl true]) hu1
  have n32 := n31.mono y1
  have n72 := n7.mono y1
  have s1 : SqT K (upd H1 u1 (.tup [V.int 1, V.int 1, V.bl true, V.bl true])) u1 [V.int 1, V.int 1, V.bl true, V.bl true] := SqT.of upd_same
  have g1 := get4 n32 hf3 s1 y
  refine ⟨_, DGet.k (k := Sum.inr y) n32.at_, _, rfl, _, _, _, _, rfl, rfl, sq_of (y1 _ _ haa), at0, d7, rfl, .inl ⟨kv7, .inl n72.at_⟩, _, rfl, (show 4 ≤ sizeLine by decide), fun u2 hu2 => ?_⟩
  have y2 := Ex.new (o := .tup [V.int 1, V.int 1, V.bl true, V.bl true]) hu2
  have n73 := n72.mono y2
  have g2 := get4 n73 hf7 (SqT.of upd_same) y
  have g1 := g1.mono y2
  refine ⟨_, DGet.k (k := Sum.inr y) n73.at_, _, _, rfl, ?_⟩
  have m2 := mm.mono (y1.trans y2)
  generalize upd (upd H1 u1 (.tup [V.int 1, V.int 1, V.bl true, V.bl true])) u2 (.tup [V.int 1, V.int 1, V.bl true, V.bl true]) = H2 at g1 g2 m2 ⊢
  obtain ⟨v1, z1, e1, h1, ok1⟩ := g1
  obtain ⟨v2, z2, e2, h2, ok2⟩ := g2
  dsimp only
  rw [e1, e2]
  refine q_asgBB (eb_and (a := z1.2.2.1) (ev_op (ev_var rfl) ev_c (rv_ixT h1 (atI_nat (j := 2) rfl))) fun H3 e3 R kR => ?_) (eb_and (a := z1.2.2.2) (ev_op (ev_var rfl) ev_c (rv_ixT h1 (atI_nat (j := 3) rfl))) fun H3 e3 R kR => ?_) fun b1 b2 p7 H3 e3 h7 => ?_
  · refine ⟨_, rfl, lst1 _ _ rfl (sb.trans (m2.ex.trans e3)) _ fun p xs2 H4 hp4 e4 h4 _ _ => ⟨p, xs2.map V.str, rfl, .inl (sq_of h4), rfl, flat_strs xs2, kR _ _ e4⟩⟩
  · exact ⟨_, rfl, _, _, _, _, rfl, rfl, ex_t e3 h2, atI_nat (j := 3) rfl, kR _ _ (Ex.refl _)⟩
  have m3 := m2.mono e3
  have h13 := ex_t e3 h1
  have h23 := ex_t e3 h2
  refine ⟨_, rfl, _, _, _, _, rfl, rfl, h13, at0, _, rfl, _, _, _, _, rfl, rfl, h23, at0, _, _, rfl, _, rfl, _, _, _, _, rfl, rfl, h13, at1, _, rfl, _, _, _, _, rfl, rfl, h23, at1, _, _, rfl, sz2, fun q1 hq1 => ?_⟩
  have x4 := Ex.new (H := H3) (o := .tup [V.int (gr z1.1 z2.1), V.int (gr z1.2.1 z2.2.1)]) hq1
  refine ⟨_, rfl, q1, p7, _, _, rfl, rfl, SqT.of upd_same, SqT.of (x4 _ _ h7), (show 4 ≤ sizeLine by decide), (fun z => nomatch z), (fun _ z => nomatch z), fun _ _ p4 hp4 => ?_⟩
  have x5 := Ex.new (o := .tup ([V.int (gr z1.1 z2.1), V.int (gr z1.2.1 z2.2.1)] ++ [V.bl b1, V.bl b2])) hp4
  have m5 := m3.mono (x4.trans x5)
  obtain ⟨l5, w5, p5, ha5, hp5⟩ := m5.ob
  obtain ⟨kv5, f5, n5, hf5⟩ := m5.dc
  refine ⟨_, rfl, _, _, _, _, rfl, rfl, sq_of ha5, at0, _, rfl, d7, _, rfl, DPut.k (k := Sum.inr y) n5.at_ (small1000 (by have := n5.few; omega)), ?_⟩
  exact ⟨d7, _, _, _, _, m5.putN (q := (gr z1.1 z2.1, gr z1.2.1 z2.2.1, b1, b2)) n5 hf5 hyN (SqT.of upd_same) ⟨⟨Int.le_trans ok1.1.1 (gr_l _ _), gr_le ok1.1.2 ok2.1.2⟩, Int.le_trans ok1.2.1 (gr_l _ _), gr_le ok1.2.2 ok2.2.2⟩, rfl⟩
theorem ok_law_measure (T : Txt w K mg) : ∀ n, n ≤ 2 → FR P w K mg base (2 * n + 10) (a_law_measure K) (sp_lmeasure K n)
  | 0, _ => FR.never fun vs H Q ⟨_, _, _, _, _, _, _, _, h, _⟩ => nomatch h
  | n + 1, hn => measure_step T n (ok_law_measure T n (by omega)) (branch_stepL T n (ok_law_set_in T (n + 1)) (ok_law_measure T n (by omega)))
def sp_lmeasures (K : PySem.W.Frag) : SP0 := fun vs H Q => ∃ (a : Addr) (ws : List V) (bs : List Lb) (NS : List Str), vs = [.ref a] ∧ (SqL K H a ws ∨ SqT K H a ws) ∧ Paired (LbAt K H) ws bs ∧ ((∀ b ∈ bs, b.wf NS) ∧ cntS bs ≤ 1000 ∧ NS.length ≤ 20) ∧ ∀ p (x y z : Int) H', Ex H H' → SqT K H' p [.int x, .int y, .int z] → Q (.ref p) H'
theorem ok_law_measures0 (T : Txt w K mg) (GM : FR P w K mg base 14 (a_law_measure K) (sp_lmeasure K 2)) : FR P w K mg base (15) (a_law_measures K) (sp_lmeasures K) := by
  obtain ⟨fd, F⟩ := T.d_law_measures
  refine mkR F sc_law_measures (fun _ _ _ _ _ _ us hl => match us, hl with | [_], _ => rfl) (fun vs H Q h => by obtain ⟨a, ws, bs, NS, rfl, hq, hp, ⟨wf, few, hn⟩, k⟩ := h; rfl) fun cdv A outer s H vs Q E hr h => ?_
  obtain ⟨a, ws, bs, NS, rfl, hq, hp, ⟨wf, few, hn⟩, k⟩ := h
  refine ⟨_, (pss_cons (ps_set (i := 1) sc_law_measures.nd rfl (Or.inl rfl) (pe_lst (pa_cons pe_dnewK (pa_cons pe_int (pa_cons pe_int (pa_cons pe_int pa_nil))))))
  (pss_cons (ps_expr (pe_callF (GM) (hr.mono (by omega)) (by rfl) T.g_law_measure T.k_law_measure (pa_cons (pv 0) (pa_cons (pv 1) pa_nil))))
  (pss_one (ps_ret (pe_tup (pa_cons (pe_ix (kix_list (K := K) rfl) (pv 1) pe_int (fun _ _ => rfl)) (pa_cons (pe_ix (kix_list (K := K) rfl) (pv 1) pe_int (fun _ _ => rfl)) (pa_cons (pe_ix (kix_list (K := K) rfl) (pv 1) pe_int (fun _ _ => rfl)) pa_nil)))))))), ?_⟩
  intro d hd
  refine ⟨(show 4 ≤ sizeLine by decide), fun s0 hs0 => ?_⟩
  have x1 := Ex.new (H := H) (o := .dK []) hd
  have x2 := Ex.new (o := .lst [V.ref d, V.int 1, V.int 1, V.int 1]) hs0
  have hd2 := x2 _ _ (upd_same (H := H) (a := d) (o := .dK []))
  have m : StAt K NS H (upd (upd H d (.dK [])) s0 (.lst [V.ref d, V.int 1, V.int 1, V.int 1])) s0 d := ⟨x1.trans x2, fresh_back x1 hs0, hd, ⟨1, 1, 1, upd_same, by decide, by decide⟩, ⟨[], _, NowAt.new hd2, fun _ => first4_ok⟩⟩
  refine ⟨_, rfl, _, rfl, a, s0, d, ws, bs, 1, NS, H, rfl, rfl, m, hq, hp, ⟨wf, few, hn, fun h => absurd h (by decide)⟩, fun d' H' m' => ?_⟩
  obtain ⟨l, w, p, ha, _⟩ := m'.ob
  refine ⟨_, rfl, _, _, _, _, rfl, rfl, sq_of ha, at1, _, rfl, _, _, _, _, rfl, rfl, sq_of ha, atI_nat (j := 2) rfl, _, rfl, _, _, _, _, rfl, rfl, sq_of ha, atI_nat (j := 3) rfl, sz3, fun q hq => ?_⟩
  exact k q l w p _ (m'.ex.trans (Ex.new hq)) (SqT.of upd_same)
theorem ok_law_measures (T : Txt w K mg) : FR P w K mg base 15 (a_law_measures K) (sp_lmeasures K) := ok_law_measures0 T (ok_law_measure T 2 (by decide))
end
end E97
set_option Elab.async false
set_option linter.all false
set_option maxRecDepth 100000
set_option maxHeartbeats 4000000
/-! P28: which rows are kept -/
namespace E97
open PySem PySem.Spec PyProof.Rows L2 Evl NdefX
def Two (H : Hp) (Q : VK) : Prop := ∀ p (x y : Int) H', Ex H H' → H' p = some (.lst [.int x, .int y]) → Q (.ref p) H'
def sp_ldone (K : PySem.W.Frag) (n : Nat) : SP0 := fun vs H Q => ∃ (a : Addr) (ws : List V) (bs : List Lb) (e : Nat) (NS : List Str), n = e + 1 ∧ vs = [.ref a] ∧ (SqL K H a ws ∨ SqT K H a ws) ∧ Paired (LbAt K H) ws bs ∧ ((∀ b ∈ bs, b.wf NS) ∧ (e = 0 → onesB bs)) ∧ Two H Q
def sp_lkeep (K : PySem.W.Frag) : SP0 := fun vs H Q => ∃ (a : Addr) (ws : List V) (bs : List Lb) (NS : List Str), vs = [.ref a] ∧ SqL K H a ws ∧ Paired (LbAt K H) ws bs ∧ ((∀ b ∈ bs, b.wf NS) ∧ cntS bs ≤ 4 ∧ NS.length ≤ 20) ∧ ∀ p ws' bs' H', H p = none → Ex H H' → H' p = some (.lst ws') → Paired (LbAt K H') ws' bs' → ((∀ b ∈ bs', b.wf NS) ∧ cntS bs' ≤ cntS bs) → Q (.ref p) H'
theorem eb_andIf {ta tb : TE} {σ : L2.St} {H : Hp} {a : Bool} (h1 : Ev ta σ H (.bl a)) (h2 : a = true → EvB tb σ H) : EvB (tAndV ta tb) σ H := fun H1 e Q q => h1 H1 e _ fun H2 e2 => ⟨a, rfl, by
  cases a with
  | true => exact h2 rfl H2 (e.trans e2) Q fun b H3 e3 => q b H3 (e2.trans e3)
  | false => exact q false H2 e2⟩
theorem eb_ev {te : TE} {σ : L2.St} {H : Hp} {b : Bool} (h : Ev te σ H (.bl b)) : EvB te σ H := fun H1 e Q q => h H1 e _ fun H2 e2 => q b H2 e2
theorem row_head {K : PySem.W.Frag} {H : Hp} {v : V} {b : Lb} (h : LbAt K H v b) : ∃ (a : Addr) (z : Str) (xs : List V), v = .ref a ∧ SqT K H a (.str z :: xs) ∧ (z = "put" → ∃ d : Str, (V.str z :: xs)[2]? = some (.str d)) ∧ (z = "put" ∨ z = "stop" → ∃ r, b = .one r) := by
  cases b with
  | one r =>
    cases r with
    | put y g =>
      obtain ⟨a, r, h1, h2, _⟩ := h
      exact ⟨a, _, _, h1, h2, fun _ => ⟨_, rfl⟩, fun _ => ⟨_, rfl⟩⟩
    | stop =>
      obtain ⟨a, h1, h2⟩ := h
      exact ⟨a, _, _, h1, h2, fun c => absurd c (by decide +kernel), fun _ => ⟨_, rfl⟩⟩
  | times n rs =>
    obtain ⟨a, t, vs, h1, h2, _⟩ := h
    exact ⟨a, _, _, h1, h2, fun c => absurd c (by decide +kernel), fun c => c.elim (fun c => absurd c (by decide +kernel)) fun c => absurd c (by decide +kernel)⟩
  | ife t rs os =>
    obtain ⟨a, u, t1, t2, vs, ws, h1, h2, _⟩ := h
    exact ⟨a, _, _, h1, h2, fun c => absurd c (by decide +kernel), fun c => c.elim (fun c => absurd c (by decide +kernel)) fun c => absurd c (by decide +kernel)⟩
theorem sqT_eq {K : PySem.W.Frag} {H : Hp} {a : Addr} {xs : List V} (h : H a = some (.tup xs)) : SqT K H a xs := SqT.of h
section
variable {P : Program} {w : World} {K : PySem.W.Frag} {mg : Str → Option Value} {base : Heap} {NS : List Str}
theorem done_step (T : Txt w K mg) (n : Nat) (GD : FR P w K mg base (n + 2) (a_law_done K) (sp_ldone K n)) : FR P w K mg base (n + 3) (a_law_done K) (sp_ldone K (n + 1)) := by
  obtain ⟨fd, F⟩ := T.d_law_done
  refine mkR F sc_law_done (fun _ _ _ _ _ _ us hl => match us, hl with | [_], _ => rfl) (fun vs H Q h => by obtain ⟨a, ws, bs, e, NS, hne, rfl, hq, hp, ⟨wf, hone⟩, k⟩ := h; rfl) fun cdv A outer s H vs Q E hr h => ?_
  obtain ⟨a, ws, bs, e, NS, hne, rfl, hq, hp, ⟨wf, hone⟩, k⟩ := h
  refine ⟨_, (pss_cons (ps_set (i := 1) sc_law_done.nd rfl (Or.inl rfl) (pe_lst (pa_cons pe_int (pa_cons pe_int pa_nil))))
  (pss_cons (ps_for PassesOwn.never rfl (kpi_any (K := K) rfl (pv 0)) (pg_name (i := 2) sc_law_done.nd rfl (Or.inl rfl)) (pss_cons (ps_set (i := 3) sc_law_done.nd rfl (Or.inl rfl) (pe_lst (pa_cons pe_int (pa_cons (pe_callTy call_int1 (by rfl) T.z_int b_int (pa_cons (pe_and (pe_cmpR op_eq (pe_ix (kix_tup (K := K) rfl) (pv 2) pe_int (fun _ _ => rfl)) pe_str (nomark _)) (pe_one (pe_cmpR (kop_in (K := K) rfl) (pe_ix (kix_tup (K := K) rfl) (pv 2) pe_int (fun _ _ => rfl)) (pe_tup (pa_cons pe_str (pa_cons pe_str (pa_cons pe_str pa_nil)))) (by rfl)))) pa_nil)) pa_nil))))
  (pss_cut (ps_if (pt_cmpR op_eq (pe_ix (kix_tup (K := K) rfl) (pv 2) pe_int (fun _ _ => rfl)) pe_str (nomark _)) (pss_cons (ps_set (i := 4) sc_law_done.nd rfl (Or.inl rfl) (pe_callF (GD) (hr.mono (by omega)) (by rfl) T.g_law_done T.k_law_done (pa_cons (pe_ix (kix_tup (K := K) rfl) (pv 2) pe_int (fun _ _ => rfl)) pa_nil)))
  (pss_one (ps_set (i := 3) sc_law_done.nd rfl (Or.inl rfl) (pe_lst (pa_cons (pe_op op_add pe_int (pe_op op_mul (pe_ix (kix_tup (K := K) rfl) (pv 2) pe_int (fun _ _ => rfl)) (pe_ix (kix_list (K := K) rfl) (pv 4) pe_int (fun _ _ => rfl)))) (pa_cons (pe_op op_mul (pe_ix (kix_tup (K := K) rfl) (pv 2) pe_int (fun _ _ => rfl)) (pe_ix (kix_list (K := K) rfl) (pv 4) pe_int (fun _ _ => rfl))) pa_nil)))))) (pss_one (ps_if (pt_cmpR op_eq (pe_ix (kix_tup (K := K) rfl) (pv 2) pe_int (fun _ _ => rfl)) pe_str (nomark _)) (pss_cons (ps_par (i := 4) (j := 5) (by rfl) sc_law_done.nd rfl rfl (by decide) rfl rfl (pa_cons (pe_callF (GD) (hr.mono (by omega)) (by rfl) T.g_law_done T.k_law_done (pa_cons (pe_ix (kix_tup (K := K) rfl) (pv 2) pe_int (fun _ _ => rfl)) pa_nil)) (pa_cons (pe_callF (GD) (hr.mono (by omega)) (by rfl) T.g_law_done T.k_law_done (pa_cons (pe_ix (kix_tup (K := K) rfl) (pv 2) pe_int (fun _ _ => rfl)) pa_nil)) pa_nil)) (by rfl))
  (pss_one (ps_set (i := 3) sc_law_done.nd rfl (Or.inl rfl) (pe_lst (pa_cons (pe_op op_add pe_int (pe_callF (ok_law_more (K := K) T) (hr.mono (by omega)) (by rfl) T.g_law_more T.k_law_more (pa_cons (pe_ix (kix_list (K := K) rfl) (pv 4) pe_int (fun _ _ => rfl)) (pa_cons (pe_ix (kix_list (K := K) rfl) (pv 5) pe_int (fun _ _ => rfl)) pa_nil)))) (pa_cons (pe_callF (ok_law_more (K := K) T) (hr.mono (by omega)) (by rfl) T.g_law_more T.k_law_more (pa_cons (pe_ix (kix_list (K := K) rfl) (pv 4) pe_int (fun _ _ => rfl)) (pa_cons (pe_ix (kix_list (K := K) rfl) (pv 5) pe_int (fun _ _ => rfl)) pa_nil))) pa_nil)))))) pss_nil)))
  (pss_one (ps_set (i := 1) sc_law_done.nd rfl (Or.inl rfl) (pe_lst (pa_cons (pe_op op_add (pe_ix (kix_list (K := K) rfl) (pv 1) pe_int (fun _ _ => rfl)) (pe_ix (kix_list (K := K) rfl) (pv 3) pe_int (fun _ _ => rfl))) (pa_cons (pe_op op_add (pe_ix (kix_list (K := K) rfl) (pv 1) pe_int (fun _ _ => rfl)) (pe_ix (kix_list (K := K) rfl) (pv 3) pe_int (fun _ _ => rfl))) pa_nil))))))))
  (pss_one (ps_ret (pv 1))))), ?_⟩
  obtain rfl : n = e := by omega
  refine ⟨sz2, fun f0 hf0 => ?_⟩
  have x0 := Ex.new (H := H) (o := .lst [V.int 0, V.int 0]) hf0
  refine for_any (K := K) (xs := ws) rfl hq x0 (fun i σ' H' => ∃ (f : Addr) (x y : Int) (o2 o3 o4 o5 : Option V), Ex H H' ∧ H' f = some (.lst [.int x, .int y]) ∧ σ' = [some (.ref a), some (.ref f), o2, o3, o4, o5]) ⟨f0, 0, 0, _, _, _, _, x0, upd_same, rfl⟩ (fun i σ' H' _ z => by obtain ⟨_, _, _, _, _, _, _, z, _⟩ := z; exact z) (fun i x σ' H1 hx z => ?_) fun σ' H' z => ?_
  rotate_left
  · obtain ⟨f, x, y, _, _, _, _, e1, hf, rfl⟩ := z
    exact ⟨_, rfl, k f x y H' e1 hf⟩
  obtain ⟨f, fx, fy, o2, o3, o4, o5, e1, hf, rfl⟩ := z
  obtain ⟨b, hb⟩ := get_of_len (ys := bs) hx (paired_len hp).symm
  have bm := List.mem_of_getElem? hb
  have hb1 := (paired_get hp hx hb).mono e1
  have wb := wf b bm
  obtain ⟨rr, hd, tl, rfl, hr1, hd2, _⟩ := row_head hb1
  refine eb_andIf (a := decide (V.str hd = V.str "put")) (ev_op (ev_op (ev_var rfl) ev_c (rv_ixT hr1 at0)) ev_c (rv_eq rfl)) (fun c => ?_) H1 (Ex.refl H1) _ fun b1 H2 e2 => .inr ⟨b1, rfl, sz2, fun h0 hh0 => ?_⟩
  · obtain ⟨d, hd⟩ := hd2 (V.str.inj (of_decide_eq_true c))
    exact eb_ev (ev_inU (xs := [V.str "*", V.str "**", V.str "joined"]) (ev_op (ev_var rfl) ev_c (rv_ixT hr1 (atI_nat (j := 2) hd))) (eu_tup (ea_cons ev_c (ea_cons ev_c (ea_cons ev_c ea_nil))) (by decide)) rfl rfl)
  have x3 := Ex.new (H := H2) (o := .lst [V.int 1, V.int (if b1 = true then 1 else 0)]) hh0
  have e3 := e2.trans x3
  have hh3 : (upd H2 h0 (.lst [V.int 1, V.int (if b1 = true then 1 else 0)])) h0 = some (.lst [V.int 1, V.int (if b1 = true then 1 else 0)]) := upd_same
  generalize upd H2 h0 (.lst [V.int 1, V.int (if b1 = true then 1 else 0)]) = H3 at e3 hh3 ⊢
  refine ⟨fun σ' H' => ∃ (h : Addr) (x y : Int) (o4 o5 : Option V), Ex H1 H' ∧ H' h = some (.lst [.int x, .int y]) ∧ σ' = [some (.ref a), some (.ref f), some (.ref rr), some (.ref h), o4, o5], ?_, ?_⟩
  · cases b with
    | one r =>
      have hn : ∃ hd' tl', SqT K H3 rr (.str hd' :: tl') ∧ ¬ hd' = "times" ∧ ¬ hd' = "if" := by
        cases r with
        | put y g =>
          obtain ⟨a', r, h1, h2, _⟩ := hb1
          cases h1
          exact ⟨_, _, ex_t e3 h2, by decide +kernel, by decide +kernel⟩
        | stop =>
          obtain ⟨a', h1, h2⟩ := hb1
          cases h1
          exact ⟨_, _, ex_t e3 h2, by decide +kernel, by decide +kernel⟩
      obtain ⟨hd', tl', h3, z1, z2⟩ := hn
      refine ⟨_, rfl, _, _, _, _, rfl, rfl, h3, at0, rfl, _, rfl, iteS (fun c => absurd c z1) fun _ => ?_⟩
      refine ⟨_, rfl, _, _, _, _, rfl, rfl, h3, at0, rfl, _, rfl, iteS (fun c => absurd c z2) fun _ => ?_⟩
      exact ⟨h0, _, _, _, _, e3, hh3, rfl⟩
    | times c rs =>
      have wb : c ≤ 4 ∧ ∀ r ∈ rs, r.wf NS := wb
      obtain ⟨n', rfl⟩ : ∃ n', n = n' + 1 := by
        cases n with
        | zero =>
          obtain ⟨q, rfl⟩ := hone rfl
          obtain ⟨r, _, h⟩ := List.mem_map.mp bm
          cases h
        | succ n' => exact ⟨n', rfl⟩
      obtain ⟨a', t1, vs1, h1, h2, ht1, hp1⟩ := hb1
      cases h1
      have h3 := ex_t e3 h2
      refine ⟨_, rfl, _, _, _, _, rfl, rfl, h3, at0, rfl, _, rfl, iteS (fun _ => ?_) fun c => absurd rfl c⟩
      refine ⟨_, rfl, _, _, _, _, rfl, rfl, h3, atI_nat (j := 2) rfl, t1, vs1, rs.map Lb.one, n', NS, rfl, rfl, .inr (ex_t e3 ht1), lb_of_ones (Paired.mapP hp1 fun _ _ z => z.mono e3), ⟨fun z hz => ?_, fun _ => ⟨rs, rfl⟩⟩, fun p x y H4 e4 h4 => ?_⟩
      · obtain ⟨r, hr, rfl⟩ := List.mem_map.mp hz
        exact wb.2 r hr
      have h34 := ex_t e4 h3
      refine ⟨_, rfl, _, _, _, _, rfl, rfl, h34, at1, _, rfl, _, _, _, _, rfl, rfl, sq_of h4, at0, _, _, rfl, rfl, (.inl ⟨show -(2 ^ 64) < (c : Int) by omega, show (c : Int) < 2 ^ 64 by omega⟩), _, _, rfl, rfl, _, rfl, _, _, _, _, rfl, rfl, h34, at1, _, rfl, _, _, _, _, rfl, rfl, sq_of h4, at1, _, _, rfl, rfl, (.inl ⟨show -(2 ^ 64) < (c : Int) by omega, show (c : Int) < 2 ^ 64 by omega⟩), sz2, fun q hq => ?_⟩
      exact ⟨q, _, _, _, _, e3.trans (e4.trans (Ex.new hq)), upd_same, rfl⟩
    | ife t rs os =>
      have wb : t.wf NS 4 ∧ (∀ r ∈ rs, r.wf NS) ∧ ∀ r ∈ os, r.wf NS := wb
      obtain ⟨n', rfl⟩ : ∃ n', n = n' + 1 := by
        cases n with
        | zero =>
          obtain ⟨q, rfl⟩ := hone rfl
          obtain ⟨r, _, h⟩ := List.mem_map.mp bm
          cases h
        | succ n' => exact ⟨n', rfl⟩
      obtain ⟨a', u, t1, t2, vs1, vs2, h1, h2, hu, ⟨ht1, hp1⟩, ht2, hp2⟩ := hb1
      cases h1
      have h3 := ex_t e3 h2
      refine ⟨_, rfl, _, _, _, _, rfl, rfl, h3, at0, rfl, _, rfl, iteS (fun c => absurd c (by decide +kernel)) fun _ => ?_⟩
      refine ⟨_, rfl, _, _, _, _, rfl, rfl, h3, at0, rfl, _, rfl, iteS (fun _ => ?_) fun c => absurd rfl c⟩
      refine ⟨_, rfl, _, _, _, _, rfl, rfl, h3, atI_nat (j := 2) rfl, t1, vs1, rs.map Lb.one, n', NS, rfl, rfl, .inr (ex_t e3 ht1), lb_of_ones (Paired.mapP hp1 fun _ _ z => z.mono e3), ⟨fun z hz => ?_, fun _ => ⟨rs, rfl⟩⟩, fun p x y H4 e4 h4 => ?_⟩
      · obtain ⟨r, hr, rfl⟩ := List.mem_map.mp hz
        exact wb.2.1 r hr
      have e34 := e3.trans e4
      refine ⟨_, rfl, _, _, _, _, rfl, rfl, ex_t e4 h3, atI_nat (j := 3) rfl, t2, vs2, os.map Lb.one, n', NS, rfl, rfl, .inr (ex_t e34 ht2), lb_of_ones (Paired.mapP hp2 fun _ _ z => z.mono e34), ⟨fun z hz => ?_, fun _ => ⟨os, rfl⟩⟩, fun p' x' y' H5 e5 h5 => ?_⟩
      · obtain ⟨r, hr, rfl⟩ := List.mem_map.mp hz
        exact wb.2.2 r hr
      have h45 := e5 _ _ h4
      refine ⟨_, _, rfl, _, rfl, _, _, _, _, rfl, rfl, sq_of h45, at0, _, rfl, _, _, _, _, rfl, rfl, sq_of h5, at0, _, _, rfl, _, _, rfl, rfl, _, rfl, _, _, _, _, rfl, rfl, sq_of h45, at1, _, rfl, _, _, _, _, rfl, rfl, sq_of h5, at1, _, _, rfl, sz2, fun q hq => ?_⟩
      exact ⟨q, _, _, _, _, e34.trans (e5.trans (Ex.new hq)), upd_same, rfl⟩
  · rintro σ' H' ⟨h, x, y, o4, o5, e4, h4, rfl⟩
    have hf4 := e4 _ _ hf
    refine ⟨_, rfl, _, _, _, _, rfl, rfl, sq_of hf4, at0, _, rfl, _, _, _, _, rfl, rfl, sq_of h4, at0, _, _, rfl, rfl, _, rfl, _, _, _, _, rfl, rfl, sq_of hf4, at1, _, rfl, _, _, _, _, rfl, rfl, sq_of h4, at1, _, _, rfl, rfl, sz2, fun q hq => ?_⟩
    exact ⟨q, _, _, _, _, _, _, e1.trans (e4.trans (Ex.new hq)), upd_same, rfl⟩
theorem ok_law_done (T : Txt w K mg) : ∀ n, FR P w K mg base (n + 2) (a_law_done K) (sp_ldone K n)
  | 0 => FR.never fun vs H Q ⟨_, _, _, _, _, h, _⟩ => nomatch h
  | n + 1 => done_step T n (ok_law_done T n)
theorem cntS_snoc {bs : List Lb} {i : Nat} {b : Lb} (hb : bs[i]? = some b) : cntS (bs.take (i + 1)) = cntS (bs.take i) + cntB b := by rw [take_snoc hb, cntS_add]
theorem law_tame0 (T : Txt w K mg) (GD : FR P w K mg base 4 (a_law_done K) (sp_ldone K 2)) : FR P w K mg base (5) (a_law_tame K) (sp_lkeep K) := by
  obtain ⟨fd, F⟩ := T.d_law_tame
  refine mkR F sc_law_tame (fun _ _ _ _ _ _ us hl => match us, hl with | [_], _ => rfl) (fun vs H Q h => by obtain ⟨a, ws, bs, NS, rfl, hq, hp, ⟨wf, few, hn⟩, k⟩ := h; rfl) fun cdv A outer s H vs Q E hr h => ?_
  obtain ⟨a, ws, bs, NS, rfl, hq, hp, ⟨wf, few, hn⟩, k⟩ := h
  refine ⟨_, (pss_cons (ps_set (i := 1) sc_law_tame.nd rfl (Or.inl rfl) (pe_lst pa_nil))
  (pss_cons (ps_for PassesOwn.never rfl (kpi_list (K := K) rfl (pv 0)) (pg_name (i := 2) sc_law_tame.nd rfl (Or.inl rfl)) (pss_cons (ps_set (i := 3) sc_law_tame.nd rfl (Or.inl rfl) (pe_callF (GD) (hr.mono (by omega)) (by rfl) T.g_law_done T.k_law_done (pa_cons (pe_op op_cat (pv 1) (pe_lst (pa_cons (pv 2) pa_nil))) pa_nil)))
  (pss_one (ps_if (PW.pt (pw_and (pt_cmpR op_le (pe_ix (kix_list (K := K) rfl) (pv 3) pe_int (fun _ _ => rfl)) pe_int (nomark _)) (pw_and1 (pt_cmpR op_le (pe_ix (kix_list (K := K) rfl) (pv 3) pe_int (fun _ _ => rfl)) pe_int (nomark _))))) (pss_one (ps_expr (kpe_bm (K := K) rfl PySem.F.plainAttrs_list PySem.F.slot_list_append PySem.F.type_list_append mt_append (pv 1) (pa_cons (pv 2) pa_nil)))) pss_nil))))
  (pss_one (ps_ret (pv 1))))), ?_⟩
  refine ⟨Nat.zero_le _, fun fl hfl => ?_⟩
  have x0 := Ex.new (H := H) (o := .lst []) hfl
  refine ⟨_, rfl, a, rfl, ⟨_, ex_l x0 hq⟩, for_list (fun i σ' H' => ∃ (vs' : List V) (bs' : List Lb) (o2 o3 : Option V), Ex H H' ∧ H' fl = some (.lst vs') ∧ Paired (LbAt K H') vs' bs' ∧ (∀ b ∈ bs', b.wf NS) ∧ cntS bs' ≤ cntS (bs.take i) ∧ σ' = [some (.ref a), some (.ref fl), o2, o3]) ⟨[], [], _, _, x0, upd_same, .nil, fun _ h => (nomatch h), Nat.zero_le _, rfl⟩ (fun i σ' H' _ z => by obtain ⟨_, _, _, _, z, _⟩ := z; exact ex_l z hq) (fun i x σ' H1 hx z => ?_) fun σ' H' z => ?_⟩
  rotate_left
  · obtain ⟨vs', bs', _, _, e1, hf, hpp, hw, hc, rfl⟩ := z
    rw [paired_len hp, List.take_length] at hc
    exact ⟨_, rfl, k fl vs' bs' H' hfl e1 hf hpp ⟨hw, hc⟩⟩
  obtain ⟨vs', bs', o2, o3, e1, hf, hpp, hw, hc, rfl⟩ := z
  obtain ⟨b, hb⟩ := get_of_len (ys := bs) hx (paired_len hp).symm
  have bm := List.mem_of_getElem? hb
  have hb1 := (paired_get hp hx hb).mono e1
  have cs := cntS_snoc hb
  have ct := cntS_take bs (i + 1)
  have lv : vs'.length ≤ 4 := by
    rw [paired_len hpp]
    have := len_cntS bs'
    omega
  have hw2 : ∀ z ∈ bs' ++ [b], z.wf NS := fun z hz => (List.mem_append.mp hz).elim (hw z) fun h => by rw [List.mem_singleton.mp h]; exact wf b bm
  have hc2 : cntS (bs' ++ [b]) ≤ cntS (bs.take (i + 1)) := by rw [cntS_add, cs]; omega
  refine ⟨_, rfl, _, rfl, (show 1 ≤ sizeLine by decide), fun q hq' => ?_⟩
  have x2 := Ex.new (H := H1) (o := .lst [x]) hq'
  refine ⟨fl, q, _, _, rfl, rfl, x2 _ _ hf, upd_same, Nat.le_trans (show _ ≤ 5 by show vs'.length + 1 ≤ 5; omega) (by decide), fun r hr' => ?_⟩
  have x3 := Ex.new (o := .lst (vs' ++ [x])) hr'
  have x23 := x2.trans x3
  refine ⟨r, vs' ++ [x], bs' ++ [b], 1, NS, rfl, rfl, .inl (sq_of upd_same), paired_append (Paired.mapP hpp fun _ _ z => z.mono x23) (.cons (hb1.mono x23) .nil), ⟨hw2, fun h => absurd h (by decide)⟩, fun p z1 z2 H2 e2 h2 => ?_⟩
  have e12 := x23.trans e2
  have hf2 := e12 _ _ hf
  have hpp2 := Paired.mapP hpp fun _ _ z => LbAt.mono e12 z
  have hb2 := hb1.mono e12
  refine s_when (et_and (et_test (ev_op (ev_op (ev_var rfl) ev_c (rv_ixL (sq_of h2) at0)) ev_c rv_I0)) fun _ => et_test (ev_op (ev_op (ev_var rfl) ev_c (rv_ixL (sq_of h2) at1)) ev_c rv_I0)) (fun _ H3 e3 => ?_) fun _ H3 e3 => ?_
  · have hf3 := e3 _ _ hf2
    refine ⟨_, rfl, tyL hf3, _, rfl, fl, _, _, rfl, rfl, hf3, Nat.lt_of_le_of_lt lv (by decide), ?_⟩
    have keep : ∀ aa xs, SqT K H3 aa xs → SqT K (upd H3 fl (.lst (vs' ++ [x]))) aa xs := fun _ _ h => sqT_lst hf3 h
    exact ⟨vs' ++ [x], bs' ++ [b], _, _, ((e1.trans e12).trans e3).mut hfl, upd_same, paired_append (Paired.mapP hpp2 fun _ _ z => (z.mono e3).map keep) (.cons ((hb2.mono e3).map keep) .nil), hw2, hc2, rfl⟩
  · exact ⟨vs', bs', _, _, (e1.trans e12).trans e3, e3 _ _ hf2, Paired.mapP hpp2 fun _ _ z => z.mono e3, hw, by omega, rfl⟩
theorem ok_law_tame (T : Txt w K mg) : FR P w K mg base 5 (a_law_tame K) (sp_lkeep K) := law_tame0 T (ok_law_done T 2)
theorem ok_law_short (T : Txt w K mg) : FR P w K mg base (16) (a_law_short K) (sp_lkeep K) := by
  obtain ⟨fd, F⟩ := T.d_law_short
  refine mkR F sc_law_short (fun _ _ _ _ _ _ us hl => match us, hl with | [_], _ => rfl) (fun vs H Q h => by obtain ⟨a, ws, bs, NS, rfl, hq, hp, ⟨wf, few, hn⟩, k⟩ := h; rfl) fun cdv A outer s H vs Q E hr h => ?_
  obtain ⟨a, ws, bs, NS, rfl, hq, hp, ⟨wf, few, hn⟩, k⟩ := h
  refine ⟨_, (pss_cons (ps_set (i := 1) sc_law_short.nd rfl (Or.inl rfl) (pe_lst pa_nil))
  (pss_cons (ps_for PassesOwn.never rfl (kpi_list (K := K) rfl (pv 0)) (pg_name (i := 2) sc_law_short.nd rfl (Or.inl rfl)) (pss_one (ps_if (pt_cmpR op_le (pe_ix (kix_tup (K := K) rfl) (pe_callF (ok_law_measures (K := K) T) (hr.mono (by omega)) (by rfl) T.g_law_measures T.k_law_measures (pa_cons (pe_op op_cat (pv 1) (pe_lst (pa_cons (pv 2) pa_nil))) pa_nil)) pe_int (fun _ _ => rfl)) pe_int (nomark _)) (pss_one (ps_expr (kpe_bm (K := K) rfl PySem.F.plainAttrs_list PySem.F.slot_list_append PySem.F.type_list_append mt_append (pv 1) (pa_cons (pv 2) pa_nil)))) pss_nil)))
  (pss_one (ps_ret (pv 1))))), ?_⟩
  refine ⟨Nat.zero_le _, fun fl hfl => ?_⟩
  have x0 := Ex.new (H := H) (o := .lst []) hfl
  refine ⟨_, rfl, a, rfl, ⟨_, ex_l x0 hq⟩, for_list (fun i σ' H' => ∃ (vs' : List V) (bs' : List Lb) (o2 : Option V), Ex H H' ∧ H' fl = some (.lst vs') ∧ Paired (LbAt K H') vs' bs' ∧ (∀ b ∈ bs', b.wf NS) ∧ cntS bs' ≤ cntS (bs.take i) ∧ σ' = [some (.ref a), some (.ref fl), o2]) ⟨[], [], _, x0, upd_same, .nil, fun _ h => (nomatch h), Nat.zero_le _, rfl⟩ (fun i σ' H' _ z => by obtain ⟨_, _, _, z, _⟩ := z; exact ex_l z hq) (fun i x σ' H1 hx z => ?_) fun σ' H' z => ?_⟩
  rotate_left
  · obtain ⟨vs', bs', _, e1, hf, hpp, hw, hc, rfl⟩ := z
    rw [paired_len hp, List.take_length] at hc
    exact ⟨_, rfl, k fl vs' bs' H' hfl e1 hf hpp ⟨hw, hc⟩⟩
  obtain ⟨vs', bs', o2, e1, hf, hpp, hw, hc, rfl⟩ := z
  obtain ⟨b, hb⟩ := get_of_len (ys := bs) hx (paired_len hp).symm
  have bm := List.mem_of_getElem? hb
  have hb1 := (paired_get hp hx hb).mono e1
  have cs := cntS_snoc hb
  have ct := cntS_take bs (i + 1)
  have lv : vs'.length ≤ 4 := by
    rw [paired_len hpp]
    have := len_cntS bs'
    omega
  have hw2 : ∀ z ∈ bs' ++ [b], z.wf NS := fun z hz => (List.mem_append.mp hz).elim (hw z) fun h => by rw [List.mem_singleton.mp h]; exact wf b bm
  have hc2 : cntS (bs' ++ [b]) ≤ cntS (bs.take (i + 1)) := by rw [cntS_add, cs]; omega
  refine ⟨_, rfl, _, rfl, (show 1 ≤ sizeLine by decide), fun q hq' => ?_⟩
  have x2 := Ex.new (H := H1) (o := .lst [x]) hq'
  refine ⟨fl, q, _, _, rfl, rfl, x2 _ _ hf, upd_same, Nat.le_trans (show _ ≤ 5 by show vs'.length + 1 ≤ 5; omega) (by decide), fun r hr' => ?_⟩
  have x3 := Ex.new (o := .lst (vs' ++ [x])) hr'
  have x23 := x2.trans x3
  refine ⟨r, vs' ++ [x], bs' ++ [b], NS, rfl, .inl (sq_of upd_same), paired_append (Paired.mapP hpp fun _ _ z => z.mono x23) (.cons (hb1.mono x23) .nil), ⟨hw2, by omega, hn⟩, fun p z1 z2 z3 H2 e2 h2 => ?_⟩
  have e12 := x23.trans e2
  have hf2 := e12 _ _ hf
  have hpp2 := Paired.mapP hpp fun _ _ z => LbAt.mono e12 z
  have hb2 := hb1.mono e12
  refine ⟨_, _, _, _, rfl, rfl, h2, at0, _, _, rfl, rfl, _, rfl, ite_both ?_ ?_⟩
  · refine ⟨_, rfl, tyL hf2, _, rfl, fl, _, _, rfl, rfl, hf2, Nat.lt_of_le_of_lt lv (by decide), ?_⟩
    have keep : ∀ aa xs, SqT K H2 aa xs → SqT K (upd H2 fl (.lst (vs' ++ [x]))) aa xs := fun _ _ h => sqT_lst hf2 h
    exact ⟨vs' ++ [x], bs' ++ [b], _, (e1.trans e12).mut hfl, upd_same, paired_append (Paired.mapP hpp2 fun _ _ z => z.map keep) (.cons (hb2.map keep) .nil), hw2, hc2, rfl⟩
  · exact ⟨vs', bs', _, e1.trans e12, hf2, hpp2, hw, by omega, rfl⟩
end
end E97
set_option Elab.async false
set_option linter.all false
set_option maxRecDepth 100000
set_option maxHeartbeats 4000000
/-! P29: what the law builds and measures: words for each kind of expression -/
namespace E97
open PySem PySem.Spec PyProof.Rows L2 Evl NdefX
section
variable {P : Program} {w : World} {K : PySem.W.Frag} {mg : Str → Option Value} {base : Heap} {k : Nat} {f : Addr}
theorem FR.ex {ι : Type} {sp : ι → SP0} (h : ∀ n, FR P w K mg base k f (sp n)) : FR P w K mg base k f (fun vs H Q => ∃ n, sp n vs H Q) := by
  intro A outer s H us vs Q E hr e0 r hs
  obtain ⟨n, hs⟩ := hs
  exact h n A outer s H us vs Q E hr e0 r hs
theorem fnOk_ex {ι : Type} {fd : FuncData} {ps : List Str} {sp : ι → SP0} (h : ∀ n, FnOk P w K mg base CX0 k f fd ps (fun vs H Q _ => sp n vs H Q)) : FnOk P w K mg base CX0 k f fd ps (fun vs H Q _ => ∃ n, sp n vs H Q) :=
  ⟨fun vs H Q E ⟨n, q⟩ => (h n).len vs H Q E q, fun A outer s H args us vs Q E hr he hb hv ⟨n, hs⟩ => (h n).run A outer s H args us vs Q E hr he hb hv hs⟩
def spX {ι : Type} (sp : ι → SP0) : SP0 := fun vs H Q => ∃ n, sp n vs H Q
theorem xk_measures (T : Txt w K mg) : FR P w K mg base 30 (a_measures K) (spX fun NS => spM1 K NS) := FR.ex fun NS => ok_measures T
theorem xkK_measures (T : Txt w K mg) : FRK P w K mg base 30 (a_measures K) 1 ["test"] (spX fun NS => sp_measures K NS) := by
  obtain ⟨fd, F⟩ := T.d_measures
  obtain ⟨mv, B⟩ := F.kbinds0 (ps := ["program", "test"]) 1 ["test"] [] (fun vs _ zs => vs ++ zs) (fun z => nomatch z) (fun q hq => by cases hq) (fun r1 _ r2 => r1.append r2) (fun D doc pm an cdv ct us mv ws l1 l2 l3 => by
    obtain ⟨u, rfl⟩ := List.length_eq_one_iff.mp l1
    obtain ⟨z, rfl⟩ := List.length_eq_one_iff.mp l3
    exact rfl)
  exact ⟨fd, _, _, fnOk_ex fun NS => okF_measures T (go_any T) (ok_Measure_look T 5) F, B⟩
theorem xk_law_program (T : Txt w K mg) : FR P0 w K mg base 19 (a_law_program K) (spX fun NS => sp_law_program K NS) := FR.ex fun NS => ok_law_program T
theorem xk_Program_add (T : Txt w K mg) : FR P0 w K mg base 17 (a_Program_add K) (spX fun NS => sp_Program_add K NS) := FR.ex fun NS => (ok_Program_add T).mono (by decide)
theorem xk_Program_len (T : Txt w K mg) : FR P w K mg base 1 (a_Program_len K) (spX fun NS => sp_Program_len K NS) := FR.ex fun NS => ok_Program_len T
theorem xk_Program_init0 (T : Txt w K mg) : FR P w K mg base 15 (a_Program_init K) (spX fun NS => sp_Program_init0 K NS) := FR.ex fun NS => ok_Program_init0 T
theorem xk_Program_init1 (T : Txt w K mg) : FR P w K mg base 15 (a_Program_init K) (spX fun NS => sp_Program_init K NS) := FR.ex fun NS => ok_Program_init1 T
theorem xk_Put_init (T : Txt w K mg) : FR P0 w K mg base 5 (a_Put_init K) (spX fun NS => spStar 3 (sp_Put_init K NS)) := FR.ex fun NS => ok_Put_init T
theorem xk_Ask_init (T : Txt w K mg) : FR P0 w K mg base 5 (a_Ask_init K) (spX fun NS => spStar 2 (sp_Ask_init K NS)) := FR.ex fun NS => ok_Ask_init T
theorem xk_Not_init (T : Txt w K mg) : FR P0 w K mg base 5 (a_Not_init K) (spX fun NS => sp_Not_init K NS) := FR.ex fun NS => ok_Not_init T
theorem xk_Times_init (T : Txt w K mg) : FR P0 w K mg base 5 (a_Times_init K) (spX fun NS => sp_Times_init K NS) := FR.ex fun NS => ok_Times_init T
theorem xk_If_init2 (T : Txt w K mg) : FR P0 w K mg base 5 (a_If_init K) (spX fun NS => sp_If_init2 K NS) := FR.ex fun NS => ok_If_init2 T
theorem xk_If_init3 (T : Txt w K mg) : FR P0 w K mg base 5 (a_If_init K) (spX fun NS => sp_If_init K NS) := FR.ex fun NS => ok_If_init3 T
end
section
variable {w : World} {K : PySem.W.Frag} {mg : Str → Option Value} {NS : List Str} {d : Nat} {σ : L2.St} {H : Hp} {te ta tb tk : TE} {rs os : List (Rw d)} {t : PT} {s s1 s2 : MS} {i : Nat} {p : Addr}
def EvP (K : PySem.W.Frag) (NS : List Str) (d : Nat) (te : TE) (σ : L2.St) (H : Hp) (rs : List (Rw d)) : Prop := ∀ H1, Ex H H1 → ∀ Q : VK, (∀ p H2, Ex H1 H2 → ProgAt K NS d H2 p rs → Q (.ref p) H2) → te σ H1 Q
def EvK (K : PySem.W.Frag) (NS : List Str) (te : TE) (σ : L2.St) (H : Hp) (t : PT) : Prop := ∀ H1, Ex H H1 → ∀ Q : VK, (∀ v H2, Ex H1 H2 → TestAt K NS H2 v t → Q v H2) → te σ H1 Q
def EvR (K : PySem.W.Frag) (NS : List Str) (d : Nat) (te : TE) (σ : L2.St) (H : Hp) (r : Rw d) : Prop := ∀ H1, Ex H H1 → ∀ Q : VK, (∀ v H2, Ex H1 H2 → RowAt K NS d H2 v r → Q v H2) → te σ H1 Q
def EvM (K : PySem.W.Frag) (te : TE) (σ : L2.St) (H : Hp) (s : MS) : Prop := ∀ H1, Ex H H1 → ∀ Q : VK, (∀ p H2, Ex H1 H2 → SqT K H2 p [.int s.long, .int s.wide, .int s.per] → Q (.ref p) H2) → te σ H1 Q
theorem ep_var (h : σ[i]? = some (some (.ref p))) (hp : ProgAt K NS d H p rs) : EvP K NS d (tVar i) σ H rs := fun H1 e Q q => ⟨_, h, q p H1 (Ex.refl H1) (hp.mono e)⟩
theorem ek_var {v : V} (h : σ[i]? = some (some v)) (hp : TestAt K NS H v t) : EvK K NS (tVar i) σ H t := fun H1 e Q q => ⟨_, h, q v H1 (Ex.refl H1) (hp.mono e)⟩
theorem em_var (h : σ[i]? = some (some (.ref p))) (hp : SqT K H p [.int s.long, .int s.wide, .int s.per]) : EvM K (tVar i) σ H s := fun H1 e Q q => ⟨_, h, q p H1 (Ex.refl H1) (ex_t e hp)⟩
theorem ep_add (h1 : EvP K NS d ta σ H rs) (h2 : EvP K NS d tb σ H os) (hz : rs.length + os.length ≤ 24) : EvP K NS d (tOp (rAddO K (C_Program K) (spX fun NS => sp_Program_add K NS)) ta tb) σ H (rs ++ os) := fun H1 e Q q =>
  h1 H1 e _ fun p H2 e2 hp => h2 H2 (e.trans e2) _ fun p' H3 e3 hp' => by
    have hp3 := hp.mono e3
    obtain ⟨dx, ra, fl, li, nm, ws, zs, g1, _⟩ := hp3.ob
    obtain ⟨dx', ra', fl', li', nm', ws', zs', g1', _⟩ := hp'.ob
    exact ⟨p, p', dx, _, dx', _, rfl, rfl, g1, g1', NS, d, p, p', rs, os, rfl, hp3, hp', hz, fun r H' e' z => ⟨⟨r, rfl⟩, q r H' ((e2.trans e3).trans e') z⟩⟩
theorem ep_new0 (hn : NS.length ≤ 20) : EvP K NS 2 (tMakeF (C_Program K) (spX fun NS => sp_Program_init0 K NS) tNil) σ H [] := fun H1 e Q q x dx hx hdx hne =>
  ⟨NS, x, dx, H1, rfl, newAt hx hdx hne, hn, fun H' e' z => ⟨rfl, q x H' e' z⟩⟩
theorem ep_new1 {r : Rw d} (h : EvR K NS d te σ H r) (wf : Rw.wf NS d r) (hd : d ≤ 3) (hn : NS.length ≤ 20) : EvP K NS d (tMakeF (C_Program K) (spX fun NS => sp_Program_init K NS) (tCons (tLst (tCons te tNil)) tNil)) σ H [r] := fun H1 e Q q =>
  h H1 e _ fun v H2 e2 hv => ⟨(show 1 ≤ sizeLine by decide), fun l hl x dx hx hdx hne =>
    ⟨NS, d, x, dx, l, [v], [r], upd H2 l (.lst [v]), rfl, newAt hx hdx hne, ⟨.inl upd_same, .cons (hv.mono (Ex.new hl)) .nil⟩, ⟨fun z hz => by rw [List.mem_singleton.mp hz]; exact wf, (show 1 ≤ 24 by decide), hd, hn⟩, fun H' e' z => ⟨rfl, q x H' (e2.trans ((Ex.new hl).trans e')) z⟩⟩⟩
theorem er_times (T : Txt w K mg) {n : Nat} (h : σ[i]? = some (some (.ref p))) (hp : ProgAt K NS d H p rs) (hd : d ≤ 2) (hl : rs.length ≤ 12) (hn : n ≤ 1000) : EvR K NS (d + 1) (tMakeF (C_Times K) (spX fun NS => sp_Times_init K NS) (tCons (tC (.int n)) (tCons (tFld K (tVar i) "rows") tNil))) σ H (RF.times n rs : RF (Rw d)) := fun H1 e Q q => by
  obtain ⟨dx, ra, fl, li, nm, ws, zs, g1, ⟨g2, g3⟩, _⟩ := (hp.mono e).ob
  exact ⟨_, h, p, _, dx, _, _, rfl, g1, T.c_Program, T.n_Program_rows, pfr _ _ _ _, fun x dx hx hdx hne => ⟨NS, d, x, dx, ra, n, ws, rs, H1, rfl, newAt hx hdx hne, ⟨.inr g2, g3⟩, ⟨hd, hl, hn⟩, fun H' e' z => ⟨rfl, q (.ref x) H' e' z⟩⟩⟩
theorem er_if2 (T : Txt w K mg) (hk : EvK K NS tk σ H t) (wt : t.wf NS 4) (h : σ[i]? = some (some (.ref p))) (hp : ProgAt K NS d H p rs) (hd : d ≤ 2) (hl : rs.length ≤ 12) : EvR K NS (d + 1) (tMakeF (C_If K) (spX fun NS => sp_If_init2 K NS) (tCons tk (tCons (tFld K (tVar i) "rows") tNil))) σ H (RF.ife t rs [] : RF (Rw d)) := fun H1 e Q q =>
  hk H1 e _ fun v H2 e2 hv => by
    obtain ⟨dx, ra, fl, li, nm, ws, zs, g1, ⟨g2, g3⟩, _⟩ := (hp.mono (e.trans e2)).ob
    exact ⟨_, h, p, _, dx, _, _, rfl, g1, T.c_Program, T.n_Program_rows, pfr _ _ _ _, fun x dx hx hdx hne => ⟨NS, d, x, dx, ra, _, v, t, ws, [], rs, [], H2, rfl, newAt hx hdx hne, ⟨hv, wt⟩, ⟨⟨.inr g2, g3⟩, .inr (dfl_tup T), .nil⟩, ⟨hd, hl, Nat.zero_le _⟩, fun H' e' z => ⟨rfl, q (.ref x) H' (e2.trans e') z⟩⟩⟩
theorem er_if3 (T : Txt w K mg) {j : Nat} {p' : Addr} (hk : EvK K NS tk σ H t) (wt : t.wf NS 4) (h : σ[i]? = some (some (.ref p))) (hp : ProgAt K NS d H p rs) (h' : σ[j]? = some (some (.ref p'))) (hp' : ProgAt K NS d H p' os) (hd : d ≤ 2) (hl : rs.length ≤ 12) (hl' : os.length ≤ 12) : EvR K NS (d + 1) (tMakeF (C_If K) (spX fun NS => sp_If_init K NS) (tCons tk (tCons (tFld K (tVar i) "rows") (tCons (tFld K (tVar j) "rows") tNil)))) σ H (RF.ife t rs os : RF (Rw d)) := fun H1 e Q q =>
  hk H1 e _ fun v H2 e2 hv => by
    obtain ⟨dx, ra, fl, li, nm, ws, zs, g1, ⟨g2, g3⟩, _⟩ := (hp.mono (e.trans e2)).ob
    obtain ⟨dx', ra', fl', li', nm', ws', zs', g1', ⟨g2', g3'⟩, _⟩ := (hp'.mono (e.trans e2)).ob
    exact ⟨_, h, p, _, dx, _, _, rfl, g1, T.c_Program, T.n_Program_rows, pfr _ _ _ _, _, h', p', _, dx', _, _, rfl, g1', T.c_Program, T.n_Program_rows, pfr _ _ _ _, fun x dx hx hdx hne => ⟨NS, d, x, dx, ra, ra', v, t, ws, ws', rs, os, H2, rfl, newAt hx hdx hne, ⟨hv, wt⟩, ⟨⟨.inr g2, g3⟩, .inr g2', g3'⟩, ⟨hd, hl, hl'⟩, fun H' e' z => ⟨rfl, q (.ref x) H' (e2.trans e') z⟩⟩⟩
theorem er_put {j : Nat} {x y : Str} (h : σ[i]? = some (some (.str x))) (h' : σ[j]? = some (some (.str y))) (hx : x ∈ NS) (hy : y ∈ NS) (hNS : ∀ y ∈ NS, isNm y) : EvR K NS (d + 1) (tMakeF (C_Put K) (spX fun NS => spStar 3 (sp_Put_init K NS)) (tCons (tVar i) (tCons (tC (.str "rest")) (tCons (tVar j) (tCons (tVar i) tNil))))) σ H (RF.put x (.two "rest" y x) : RF (Rw d)) := fun H1 e Q q =>
  ⟨_, h, _, h', _, h, fun a dx ha hdx hne => ⟨NS, [.ref a, .str x, .str "rest"], [.str y, .str x], rfl, rfl, sz2, fun gv hgv => ⟨a, dx, gv, x, .two "rest" y x, H1, rfl, (newAt ha hdx hne).mono (Ex.new hgv), SqT.of upd_same, ⟨⟨by decide +kernel, hy, hx⟩, hNS, hx⟩, fun H' e' z => ⟨rfl, q (.ref a) H' e' (z d)⟩⟩⟩⟩
theorem ek_ask2 {word : Str} {j : Nat} {x y : Str} (h : σ[i]? = some (some (.str x))) (h' : σ[j]? = some (some (.str y))) (hx : x ∈ NS) (hy : y ∈ NS) (hNS : ∀ y ∈ NS, isNm y) (hw : word ∈ (["same", "less", "divides"] : List Str)) : EvK K NS (tMakeF (C_Ask K) (spX fun NS => spStar 2 (sp_Ask_init K NS)) (tCons (tC (.str word)) (tCons (tVar i) (tCons (tVar j) tNil)))) σ H (.ask word [x, y]) := fun H1 e Q q =>
  ⟨_, h, _, h', fun a dx ha hdx hne => ⟨NS, [.ref a, .str word], [.str x, .str y], rfl, rfl, sz2, fun gv hgv => ⟨a, dx, gv, word, [x, y], H1, rfl, (newAt ha hdx hne).mono (Ex.new hgv), SqT.of upd_same, ⟨⟨(show ∀ w ∈ (["same", "less", "divides"] : List Str), w ∈ (["same", "less", "divides", "mirrored", "unlike"] : List Str) by decide +kernel) word hw, by unfold askW; rw [if_pos hw]; rfl, fun z hz => by
    rcases List.mem_cons.mp hz with rfl | hz
    · exact hx
    · rw [List.mem_singleton.mp hz]; exact hy⟩, hNS⟩, fun H' e' z => ⟨rfl, q (.ref a) H' e' z⟩⟩⟩⟩
theorem ek_ask1 {x : Str} (h : σ[i]? = some (some (.str x))) (hx : x ∈ NS) (hNS : ∀ y ∈ NS, isNm y) : EvK K NS (tMakeF (C_Ask K) (spX fun NS => spStar 2 (sp_Ask_init K NS)) (tCons (tC (.str "mirrored")) (tCons (tVar i) tNil))) σ H (.ask "mirrored" [x]) := fun H1 e Q q =>
  ⟨_, h, fun a dx ha hdx hne => ⟨NS, [.ref a, .str "mirrored"], [.str x], rfl, rfl, (show 1 ≤ sizeLine by decide), fun gv hgv => ⟨a, dx, gv, "mirrored", [x], H1, rfl, (newAt ha hdx hne).mono (Ex.new hgv), SqT.of upd_same, ⟨⟨by decide +kernel, (show 1 = askW "mirrored" by decide +kernel), fun z hz => by rw [List.mem_singleton.mp hz]; exact hx⟩, hNS⟩, fun H' e' z => ⟨rfl, q (.ref a) H' e' z⟩⟩⟩⟩
theorem ek_not (hk : EvK K NS tk σ H t) (wt : t.wf NS 4) : EvK K NS (tMakeF (C_Not K) (spX fun NS => sp_Not_init K NS) (tCons tk tNil)) σ H (.not t) := fun H1 e Q q =>
  hk H1 e _ fun v H2 e2 hv => fun a dx ha hdx hne => ⟨NS, a, dx, v, t, H2, rfl, newAt ha hdx hne, ⟨hv, wt⟩, fun H' e' z => ⟨rfl, q (.ref a) H' (e2.trans e') z⟩⟩
theorem em_call (h : EvP K NS d te σ H rs) : EvM K (tCallF (spX fun NS => spM1 K NS) (tCons te tNil)) σ H (goM d rs ms0) := fun H1 e Q q =>
  h H1 e _ fun p H2 e2 hp => ⟨NS, d, p, .non, rs, none, rfl, hp, rfl, fun q' H' _ e' h => q q' H' (e2.trans e') (SqT.of h)⟩
theorem em_callK (h : EvP K NS d te σ H rs) (hk : EvK K NS tk σ H t) (wt : t.wf NS 4) : EvM K (tCallK 1 1 (spX fun NS => sp_measures K NS) (tCons te tNil) (tCons tk tNil)) σ H (lookM t (goM d rs ms0)) := fun H1 e Q q =>
  h H1 e _ fun p H2 e2 hp => hk H2 (e.trans e2) _ fun v H3 e3 hv => ⟨rfl, rfl, NS, d, p, v, rs, some t, rfl, hp.mono e3, ⟨hv, wt⟩, fun q' H' _ e' h => q q' H' ((e2.trans e3).trans e') (SqT.of h)⟩
theorem em_111 : EvM K (tTup (tCons (tC (.int 1)) (tCons (tC (.int 1)) (tCons (tC (.int 1)) tNil)))) σ H ms0 := fun H1 e Q q => ⟨sz3, fun p hp => q p _ (Ex.new hp) (SqT.of upd_same)⟩
theorem eqv3 (a b c : Int) : PyData.eqv (.tuple [.int a, .int b, .int c]) (.tuple [.int a, .int b, .int c]) = true := by
  simp [PyData.eqv, PyData.eqvAll]
theorem shaped3 (a b c : Int) : SeqAt.shaped (.tuple [.int a, .int b, .int c]) = true := rfl
theorem et_neM (h1 : EvM K ta σ H s1) (h2 : EvM K tb σ H s2) (e : tri s1 = tri s2) : EvT (tTest (tOp (rNeD K) ta tb)) σ H false := fun H1 e1 Q q =>
  h1 H1 e1 _ fun p H2 e2 hp => h2 H2 (e1.trans e2) _ fun p' H3 e3 hp' => by
    have z1 : s1.long = s2.long := congrArg (fun z => z.1) e
    have z2 : s1.wide = s2.wide := congrArg (fun z => z.2.1) e
    have z3 : s1.per = s2.per := congrArg (fun z => z.2.2) e
    rw [z1, z2, z3] at hp
    refine ⟨.tuple [.int s2.long, .int s2.wide, .int s2.per], .tuple [.int s2.long, .int s2.wide, .int s2.per], .tup (ex_t e3 hp) (.cons (.int _) (.cons (.int _) (.cons (.int _) .nil))), .tup hp' (.cons (.int _) (.cons (.int _) (.cons (.int _) .nil))), shaped3 _ _ _, shaped3 _ _ _, _, rfl, ?_⟩
    rw [eqv3]
    exact q H3 (e2.trans e3)
theorem et_neP (h1 : EvM K ta σ H s1) (h2 : EvM K tb σ H s2) (e : s1.per = s2.per) : EvT (tTest (tOp rNe (tOp (rIxT K) ta (tC (.int 2))) (tOp (rIxT K) tb (tC (.int 2))))) σ H false := fun H1 e1 Q q =>
  h1 H1 e1 _ fun p H2 e2 hp => ⟨p, _, _, _, rfl, rfl, hp, atI_nat (j := 2) rfl, h2 H2 (e1.trans e2) _ fun p' H3 e3 hp' => ⟨p', _, _, _, rfl, rfl, hp', atI_nat (j := 2) rfl, rfl, _, rfl, by
    rw [e, decide_eq_true rfl]
    exact q H3 (e2.trans e3)⟩⟩
theorem goM_look {d : Nat} {t t' : PT} (h : lookM t = lookM t') (rs os : List (Rw (d + 1))) (s : MS) : goM (d + 2) [(RF.ife t rs os : RF (Rw (d + 1)))] s = goM (d + 2) [(RF.ife t' rs os : RF (Rw (d + 1)))] s := by
  show branchM t _ _ _ s = branchM t' _ _ _ s
  unfold branchM
  rw [h]
end
/-! ### behind a draw -/
section
variable {K : PySem.W.Frag} {NS : List Str} {H0 H H' : Hp} {a cl D : Addr}
theorem DlAt.imm_sub (m : DlAt H0 H a cl) : Ex (imm H) (rm2 H a cl) := fun b o h => by
  obtain ⟨x, z, ha⟩ := m.ob
  obtain ⟨cs, hc, _⟩ := m.cells
  have hb := imm_ex H b o h
  refine rm2_of hb (fun e => ?_) fun e => ?_
  · subst e
    unfold imm at h
    rw [ha] at h
    cases h
  · subst e
    unfold imm at h
    rw [hc] at h
    cases h
theorem ProgAt.dl {d : Nat} {pr : Addr} {rs : List (Rw d)} (h : ProgAt K NS d H pr rs) (m : DlAt H0 H a cl) (m' : DlAt (rm2 H a cl) H' a cl) : ProgAt K NS d H' pr rs := by
  obtain ⟨⟨dx, ra, fl, li, nm, ws, zs, h1, ⟨h2, h3⟩, h4, h5⟩, q1, q2, q3, q4⟩ := h
  obtain ⟨x, z, ha⟩ := m.ob
  obtain ⟨cs, hc, _⟩ := m.cells
  have fl' : ∃ zs', H' fl = some (.lst zs') ∧ zs'.length ≤ 100000 := by
    by_cases e1 : fl = a
    · obtain ⟨x', z', ha'⟩ := m'.ob
      exact ⟨[.ref cl, .int x', .int z'], by rw [e1]; exact ha', (show 3 ≤ 100000 by decide)⟩
    by_cases e2 : fl = cl
    · obtain ⟨cs', hc', l'⟩ := m'.cells
      exact ⟨_, by rw [e2]; exact hc', by rw [List.length_map]; exact l'⟩
    exact ⟨zs, m'.ex _ _ (rm2_of h4 e1 e2), h5⟩
  obtain ⟨zs', g4, g5⟩ := fl'
  exact ⟨⟨dx, ra, fl, li, nm, ws, zs', m'.ex _ _ (rm2_of h1 (ne_of h1 ha (fun z => nomatch z)) (ne_of h1 hc (fun z => nomatch z))), ⟨ex_t m'.ex (m.keepT h2), (RowsAt.imm h3).mono (m.imm_sub.trans m'.ex)⟩, g4, g5⟩, q1, q2, q3, q4⟩
theorem TestAt.dl {t : PT} {v : V} (h : TestAt K NS H v t) (m : DlAt H0 H a cl) (m' : DlAt (rm2 H a cl) H' a cl) : TestAt K NS H' v t := h.imm.mono (m.imm_sub.trans m'.ex)
/-- a list grows -/
theorem ProgAt.wr {d : Nat} {pr : Addr} {rs : List (Rw d)} {acc acc' : List V} (h : ProgAt K NS d H pr rs) (hD : H D = some (.lst acc)) (hl : acc'.length ≤ 100000) : ProgAt K NS d (upd H D (.lst acc')) pr rs := by
  obtain ⟨⟨dx, ra, fl, li, nm, ws, zs, h1, ⟨h2, h3⟩, h4, h5⟩, q1, q2, q3, q4⟩ := h
  have fl' : ∃ zs', (upd H D (.lst acc')) fl = some (.lst zs') ∧ zs'.length ≤ 100000 := by
    by_cases e : fl = D
    · exact ⟨acc', by rw [e]; exact upd_same, hl⟩
    · exact ⟨zs, by rw [upd_ne e]; exact h4, h5⟩
  obtain ⟨zs', g4, g5⟩ := fl'
  exact ⟨⟨dx, ra, fl, li, nm, ws, zs', by rw [upd_ne (ne_of h1 hD (fun z => nomatch z))]; exact h1, ⟨sqT_lst hD h2, RowsAt.wr h3 hD rfl rfl⟩, g4, g5⟩, q1, q2, q3, q4⟩
/-- [e for i in range(n)], e draws and makes what stands in the heap -/
theorem dl_lcG {K : PySem.W.Frag} {Hb H : Hp} {j n : Nat} {ta : TA} {te : TE} {vs : List Nat} {σ : L2.St} {Q : VK} (Good : Hp → V → Prop) (mono : ∀ {H1 H2 : Hp} {y : V}, Ex H1 H2 → Good H1 y → Good H2 y) (keep : ∀ {H1 : Hp} {D q : Addr} {acc acc' : List V}, H1 D = some (.lst acc) → q ≠ D → Good H1 (.ref q) → Good (upd H1 D (.lst acc')) (.ref q)) (hn : n ≤ 1000) (m : DlAt Hb H a cl)
    (hta : ∀ R : List V → Hp → Prop, R [.int n] H → ta σ H R)
    (hs : ∀ (i : Nat) (H1 Hb1 : Hp), i < n → Ex Hb Hb1 → DlAt Hb1 H1 a cl → ∀ R : VK, (∀ q H2 Hb2, Ex Hb1 Hb2 → DlAt Hb2 H2 a cl → Good Hb2 (.ref q) → Hb1 q = none → R (.ref q) H2) → wipe ((wipe σ vs).set j (some (.int ((0 : Int) + i)))) vs = wipe σ vs ∧ te ((wipe σ vs).set j (some (.int ((0 : Int) + i)))) H1 R)
    (q : ∀ (D : Addr) (qs : List Addr) (H1 H' : Hp), Ex Hb H1 → H1 D = some (.lst (qs.map V.ref)) → DlAt H1 H' a cl → qs.length = n → (∀ p ∈ qs, Good H1 (.ref p)) → Q (.ref D) H') : tLc (iRng1 ta) (gName j) tYes te vs σ H Q :=
  hta _ ⟨n, rfl, by omega, by omega, by
    show ∀ D, H D = none → _
    intro D hD
    have hbD : Hb D = none := fresh_back m.ex hD
    obtain ⟨d1, d2⟩ := m.ne1 hD
    refine lc_it (n := n) walk_range (fun i H' => ∃ qs : List Addr, qs.length = i ∧ (∀ p ∈ qs, Good (rm2 H' a cl) (.ref p) ∧ p ≠ D) ∧ DlAt Hb H' a cl ∧ H' D = some (.lst (qs.map V.ref))) ⟨[], rfl, fun _ h => (nomatch h), m.other (K := K) hbD d1 d2, upd_same⟩ (fun _ _ _ _ => trivial) (fun i x H1 H2 hi ⟨qs, l, g, m1, hy⟩ yx => ?_) fun H1 ⟨qs, l, g, m1, hy⟩ => ?_
    · obtain ⟨rfl, rfl⟩ := yx
      have hDb := rm2_of hy d1 d2
      obtain ⟨w1, w2⟩ := hs i H2 (rm2 H2 a cl) hi m1.sub m1.big (fun y H4 => ∃ acc, H4 D = some (.lst acc) ∧ acc.length < sizeLine ∧ ∃ qs : List Addr, qs.length = i + 1 ∧ (∀ p ∈ qs, Good (rm2 (upd H4 D (.lst (acc ++ [y]))) a cl) (.ref p) ∧ p ≠ D) ∧ DlAt Hb (upd H4 D (.lst (acc ++ [y]))) a cl ∧ (upd H4 D (.lst (acc ++ [y]))) D = some (.lst (qs.map V.ref))) fun q H4 Hb2 e2 m4 gq hq => by
        have hD2 := e2 _ _ hDb
        have hD4 := m4.ex _ _ hD2
        have qD : q ≠ D := (ne_of_none hDb hq).symm
        have sub : Ex (upd Hb2 D (.lst (qs.map V.ref ++ [V.ref q]))) (rm2 (upd H4 D (.lst (qs.map V.ref ++ [V.ref q]))) a cl) := fun b o hb => by
          by_cases e : b = D
          · subst e
            rw [upd_same] at hb
            exact rm2_of (by rw [upd_same]; exact hb) d1 d2
          · rw [upd_ne e] at hb
            obtain ⟨n1, n2⟩ := m4.ne0 hb
            exact rm2_of (by rw [upd_ne e]; exact m4.ex _ _ hb) n1 n2
        refine ⟨qs.map V.ref, hD4, Nat.lt_of_le_of_lt (show (qs.map V.ref).length ≤ 1000 by rw [List.length_map]; omega) (by decide), qs ++ [q], by rw [List.length_append, l]; rfl, fun p hp => ?_, (m4.down (m1.sub.trans e2)).other (K := K) hbD d1 d2, by rw [upd_same, List.map_append]; rfl⟩
        rcases List.mem_append.mp hp with hp | hp
        · exact ⟨mono sub (keep hD2 (g p hp).2 (mono e2 (g p hp).1)), (g p hp).2⟩
        · rw [List.mem_singleton.mp hp]
          exact ⟨mono sub (keep hD2 qD gq), qD⟩
      exact ⟨w1, w2⟩
    · exact q D qs (rm2 H1 a cl) H1 m1.sub (rm2_of hy d1 d2) m1.big l fun p hp => (g p hp).1⟩
end
end E97
set_option Elab.async false
set_option linter.all false
set_option maxRecDepth 100000
set_option maxHeartbeats 4000000
/-! P30: the law itself -/
namespace E97
open PySem PySem.Spec PyProof.Rows L2 Evl NdefX
def sp_law (K : PySem.W.Frag) : SP0 := fun vs H Q => ∃ (s : Addr) (ns : List Int), vs = [.ref s] ∧ SqL K H s (ns.map V.int) ∧ ∀ H', Q (.bl true) H'
/-- a side: a list of the law's rows -/
def SideAt (K : PySem.W.Frag) (NS : List Str) (H : Hp) (v : V) : Prop := ∃ (sd : Addr) (ws : List V) (bs : List Lb), v = .ref sd ∧ H sd = some (.lst ws) ∧ Paired (LbAt K H) ws bs ∧ (∀ b ∈ bs, b.wf NS) ∧ cntS bs ≤ 4
theorem SideAt.mono {K : PySem.W.Frag} {NS : List Str} {H H' : Hp} {v : V} (e : Ex H H') : SideAt K NS H v → SideAt K NS H' v := fun ⟨sd, ws, bs, h1, h2, h3, h4⟩ => ⟨sd, ws, bs, h1, e _ _ h2, Paired.mapP h3 fun _ _ z => z.mono e, h4⟩
theorem SideAt.keep {K : PySem.W.Frag} {NS : List Str} {H : Hp} {D q : Addr} {acc acc' : List V} (hD : H D = some (.lst acc)) (hq : q ≠ D) : SideAt K NS H (.ref q) → SideAt K NS (upd H D (.lst acc')) (.ref q) := fun ⟨sd, ws, bs, h1, h2, h3, h4⟩ => by
  cases h1
  exact ⟨q, ws, bs, rfl, by rw [upd_ne hq]; exact h2, Paired.mapP h3 fun _ _ z => z.map fun _ _ h => sqT_lst hD h, h4⟩
def MadeAt (K : PySem.W.Frag) (NS : List Str) (H : Hp) (v : V) : Prop := ∃ (p : Addr) (rs : List (Rw 2)), v = .ref p ∧ ProgAt K NS 2 H p rs ∧ rs.length ≤ 4
section
variable {K : PySem.W.Frag} {NS : List Str} {σ : L2.St} {H : Hp}
theorem et_noneLess {ph pb : Addr} {l w p l' w' p' : Int} (h9 : ∀ x, ((wipe σ [14]).set 14 (some x))[9]? = some (some (.ref ph))) (h10 : ∀ x, ((wipe σ [14]).set 14 (some x))[10]? = some (some (.ref pb))) (h14 : ∀ x, wipe ((wipe σ [14]).set 14 (some x)) [14] = wipe σ [14] ∧ ((wipe σ [14]).set 14 (some x))[14]? = some (some x))
    (hh : SqT K H ph [.int l, .int w, .int p]) (hb : SqT K H pb [.int l', .int w', .int p']) (e1 : l ≤ l') (e2 : w ≤ w') (e3 : p ≤ p') :
    EvT (tTest (tOp (rNeD K) (tLc (iRng1 (tCons (tC (.int 3)) tNil)) (gName 14) (tTest (tOp (rI0 fun i j => V.bl (decide (i < j))) (tOp (rIxT K) (tVar 10) (tVar 14)) (tOp (rIxT K) (tVar 9) (tVar 14)))) (tVar 14) [14]) (tLst tNil))) σ H false := fun H1 x1 Q q =>
  ⟨3, rfl, by decide, by decide, fun D hD => lc_it (n := 3) walk_range (fun i H' => Ex H1 H' ∧ H' D = some (.lst [])) ⟨Ex.new hD, upd_same⟩ (fun _ _ _ _ => trivial) (fun i x H2 H3 hi ⟨y1, y2⟩ yx => by
    obtain ⟨rfl, rfl⟩ := yx
    have x13 := x1.trans y1
    have ha : ∃ u v : Int, ([.int l', .int w', .int p'] : List V)[i]? = some (.int u) ∧ ([.int l, .int w, .int p] : List V)[i]? = some (.int v) ∧ ¬ u < v := by
      have z : i = 0 ∨ i = 1 ∨ i = 2 := by omega
      rcases z with rfl | rfl | rfl
      · exact ⟨l', l, rfl, rfl, by omega⟩
      · exact ⟨w', w, rfl, rfl, by omega⟩
      · exact ⟨p', p, rfl, rfl, by omega⟩
    obtain ⟨u, v, hu, hv, hn⟩ := ha
    dsimp only
    rw [Int.zero_add]
    refine ⟨(h14 _).1, _, h10 _, _, (h14 _).2, _, _, _, _, rfl, rfl, ex_t x13 hb, atI_nat hu, _, h9 _, _, (h14 _).2, _, _, _, _, rfl, rfl, ex_t x13 hh, atI_nat hv, _, _, rfl, rfl, _, rfl, iteD (fun c => absurd c hn) fun _ => ⟨y1, y2⟩⟩) fun H2 ⟨y1, y2⟩ => ⟨Nat.zero_le _, fun r hr => ⟨.list [], .list [], .lst (sq_of (Ex.new hr _ _ y2)) .nil, .lst (sq_of upd_same) .nil, rfl, rfl, false, rfl, q _ (y1.trans (Ex.new hr))⟩⟩⟩
theorem ep_ixL {d i : Nat} {j : Int} {E q : Addr} {xs : List V} {NS : List Str} {rs : List (Rw d)} (h : σ[i]? = some (some (.ref E))) (hE : H E = some (.lst xs)) (ha : atI xs j = some (.ref q)) (hp : ProgAt K NS d H q rs) : EvP K NS d (tOp (rIxL K) (tVar i) (tC (.int j))) σ H rs := fun H1 e Q k => ⟨_, h, _, _, _, _, rfl, rfl, sq_of (e _ _ hE), ha, k q H1 (Ex.refl _) (hp.mono e)⟩
theorem et_lenAnd {i : Nat} {p : Addr} {rs : List (Rw 2)} {tb : TT} (h : σ[i]? = some (some (.ref p))) (hp : ProgAt K NS 2 H p rs) (hB : EvT tb σ H false) :
    EvT (tAnd (tTest (tOp (rI0 fun i j => V.bl (decide (i < j))) (tCB (rLenO K (C_Program K) (spX fun NS => sp_Program_len K NS)) (tCons (tVar i) tNil)) (tC (.int 5)))) tb) σ H false := fun H1 e Q q => by
  have hp1 := hp.mono e
  obtain ⟨dx, ra, fl, li, nm, ws, zs, g1, _⟩ := hp1.ob
  exact ⟨_, h, p, dx, _, rfl, g1, NS, 2, p, rs, rfl, hp1, fun n hn => ⟨(n : Int), rfl, ⟨by omega, by omega⟩, _, _, rfl, rfl, _, rfl, iteD (fun _ => hB H1 e _ q) fun _ => q H1 (Ex.refl H1)⟩⟩
end
section
variable {w : World} {K : PySem.W.Frag} {mg : Str → Option Value} {base : Heap}
theorem okF_law (T : Txt w K mg) {fd : FuncData} {dvs : List V} {kws : List (Str × V)} {x qual : Str} (F : FunD K x qual (defArgs s_law) (defBody s_law) (defScope s_law) dvs kws (a_law K) fd) : FnOk P0 w K mg base CX0 61 (a_law K) fd ["_law_script"] (fun vs H Q _ => sp_law K vs H Q) := by
  refine mkOk F sc_law (fun vs H Q h => by obtain ⟨s, ns, rfl, hs, k⟩ := h; rfl) fun cdv A outer s H vs Q E hr h => ?_
  obtain ⟨s, ns, rfl, hs, k⟩ := h
  refine ⟨_, (pss_cons (ps_set (i := 1) sc_law.nd rfl (Or.inr rfl) (pe_callF (ok_law_deal (K := K) T) (hr.mono (by omega)) (by rfl) T.g_law_deal T.k_law_deal (pa_cons (pv 0) (pa_cons pe_int pa_nil))))
  (pss_cons (ps_for PassesOwn.never rfl (pi_range1 (by rfl) T.z_range (pa_cons pe_int pa_nil)) (pg_name (i := 2) sc_law.nd rfl (Or.inl rfl)) (pss_cons (ps_set (i := 3) sc_law.nd rfl (Or.inr rfl) (pe_callF (ok_law_words (K := K) T) (hr.mono (by omega)) (by rfl) T.g_law_words T.k_law_words (pa_cons (pv 1) (pa_cons (pe_op op_add pe_int (pe_callF (ok_law_draw (K := K) T) (hr.mono (by omega)) (by rfl) T.g_law_draw T.k_law_draw (pa_cons (pv 1) (pa_cons pe_int pa_nil)))) pa_nil))))
  (pss_cons (ps_setLc (i := 4) (own := [("_law_k", 14)]) rfl sc_law.nd rfl rfl (sw_true rfl rfl rfl (by decide +kernel)) (pi_range1 (by rfl) T.z_range (pa_cons pe_int pa_nil)) (blkOk_by (own := [("_law_k", 14)]) (N := N_law) (sc := defScope s_law) (by decide +kernel)) (fun _ _ _ _ _ => (pg_name (i := 14) sc_law.nd rfl (Or.inl rfl))) (fun _ _ _ _ _ => pts_nil) (fun _ _ _ _ _ => (pe_callF (ok_law_short (K := K) T) (hr.mono (by omega)) (by rfl) T.g_law_short T.k_law_short (pa_cons (pe_callF (ok_law_tame (K := K) T) (hr.mono (by omega)) (by rfl) T.g_law_tame T.k_law_tame (pa_cons (pe_callF (ok_law_rows (K := K) T 2) (hr.mono (by omega)) (by rfl) T.g_law_rows T.k_law_rows (pa_cons (pv 1) (pa_cons (pv 3) (pa_cons pe_int (pa_cons pe_int (pa_cons pe_int pa_nil)))))) pa_nil)) pa_nil))))
  (pss_cons (ps_asg (pe_lc (own := [("_law_side", 15)]) rfl sc_law.nd (kpi_list (K := K) rfl (pv 4)) (blkOk_by (own := [("_law_side", 15)]) (N := N_law) (sc := defScope s_law) (by decide +kernel)) (fun _ _ _ _ _ => (pg_name (i := 15) sc_law.nd rfl (Or.inl rfl))) (fun _ _ _ _ _ => pts_nil) (fun _ _ _ _ _ => (pe_callF (xk_law_program (K := K) T) (hr.mono (by omega)) (by rfl) T.g_law_program T.k_law_program (pa_cons (pv 15) pa_nil)))) (kpg_unl (K := K) (n := 2) rfl (by rfl) (pgs_cons (pg_name (i := 5) sc_law.nd rfl (Or.inr rfl)) (pgs_cons (pg_name (i := 6) sc_law.nd rfl (Or.inr rfl)) pgs_nil))))
  (pss_cons (ps_par (i := 7) (j := 8) (by rfl) sc_law.nd rfl rfl (by decide) rfl rfl (pa_cons (pe_callF (ok_law_pick (K := K) T) (hr.mono (by omega)) (by rfl) T.g_law_pick T.k_law_pick (pa_cons (pv 1) (pa_cons (pv 3) pa_nil))) (pa_cons (pe_callF (ok_law_pick (K := K) T) (hr.mono (by omega)) (by rfl) T.g_law_pick T.k_law_pick (pa_cons (pv 1) (pa_cons (pv 3) pa_nil))) pa_nil)) (by rfl))
  (pss_cons (ps_asg (pe_tup (pa_cons (pe_callF (xk_measures (K := K) T) (hr.mono (by omega)) (by rfl) T.g_measures T.k_measures (pa_cons (pv 5) pa_nil)) (pa_cons (pe_callF (xk_measures (K := K) T) (hr.mono (by omega)) (by rfl) T.g_measures T.k_measures (pa_cons (pe_op (op_addO (C := C_Program K) (xk_Program_add (K := K) T) (hr.mono (by omega)) T.x_first (He.eqO_ok (He.ba T.x_add).1) (He.ba T.x_add).2) (pv 5) (pv 6)) pa_nil)) pa_nil))) (kpg_tup (K := K) (n := 2) rfl (by rfl) (pgs_cons (pg_name (i := 9) sc_law.nd rfl (Or.inr rfl)) (pgs_cons (pg_name (i := 10) sc_law.nd rfl (Or.inr rfl)) pgs_nil))))
  (pss_cons (ps_if (PW.pt (pw_or (pt_cmpR (kop_neD (K := K) rfl hr.units) (pe_lc (own := [("_law_k", 14)]) rfl sc_law.nd (pi_range1 (by rfl) T.z_range (pa_cons pe_int pa_nil)) (blkOk_by (own := [("_law_k", 14)]) (N := N_law) (sc := defScope s_law) (by decide +kernel)) (fun _ _ _ _ _ => (pg_name (i := 14) sc_law.nd rfl (Or.inl rfl))) (fun _ _ _ _ _ => (pts_one (pt_cmpR op_lt (pe_ix (kix_tup (K := K) rfl) (pv 10) (pv 14) (fun _ _ => rfl)) (pe_ix (kix_tup (K := K) rfl) (pv 9) (pv 14) (fun _ _ => rfl)) (nomark _)))) (fun _ _ _ _ _ => (pv 14))) (pe_lst pa_nil) (nomark _)) (pw_or1 (pt_cmpR (kop_neD (K := K) rfl hr.units) (pe_callF (xk_measures (K := K) T) (hr.mono (by omega)) (by rfl) T.g_measures T.k_measures (pa_cons (pe_op (op_addO (C := C_Program K) (xk_Program_add (K := K) T) (hr.mono (by omega)) T.x_first (He.eqO_ok (He.ba T.x_add).1) (He.ba T.x_add).2) (pe_makeF0 T.k_Program (xk_Program_init0 (K := K) T) (hr.mono (by omega)) (by rfl) T.g_Program) (pv 5)) pa_nil)) (pv 9) (nomark _))))) (pss_one (ps_ret pe_bl)) pss_nil)
  (pss_cons (ps_if (PW.pt (pw_and (pt_cmpR op_lt (pe_callB (call_lenO (C := C_Program K) (xk_Program_len (K := K) T) (hr.mono (by omega)) (He.eqO_ok (He.ba T.x_len).1) (He.ba T.x_len).2) (by rfl) T.z_len b_len (pa_cons (pv 5) pa_nil)) pe_int (nomark _)) (pw_and1 (pt_cmpR (kop_neD (K := K) rfl hr.units) (pe_callF (xk_measures (K := K) T) (hr.mono (by omega)) (by rfl) T.g_measures T.k_measures (pa_cons (pe_makeF T.k_Program (xk_Program_init1 (K := K) T) (hr.mono (by omega)) (by rfl) T.g_Program (pa_cons (pe_lst (pa_cons (pe_makeF T.k_Times (xk_Times_init (K := K) T) (hr.mono (by omega)) (by rfl) T.g_Times (pa_cons pe_int (pa_cons (kfld (K := K) rfl (pv 5) rfl) pa_nil))) pa_nil)) pa_nil)) pa_nil)) (pe_callF (xk_measures (K := K) T) (hr.mono (by omega)) (by rfl) T.g_measures T.k_measures (pa_cons (pe_op (op_addO (C := C_Program K) (xk_Program_add (K := K) T) (hr.mono (by omega)) T.x_first (He.eqO_ok (He.ba T.x_add).1) (He.ba T.x_add).2) (pv 5) (pv 5)) pa_nil)) (nomark _))))) (pss_one (ps_ret pe_bl)) pss_nil)
  (pss_cons (ps_if (pt_cmpR (kop_neD (K := K) rfl hr.units) (pe_callF (xk_measures (K := K) T) (hr.mono (by omega)) (by rfl) T.g_measures T.k_measures (pa_cons (pe_makeF T.k_Program (xk_Program_init1 (K := K) T) (hr.mono (by omega)) (by rfl) T.g_Program (pa_cons (pe_lst (pa_cons (pe_makeF T.k_Times (xk_Times_init (K := K) T) (hr.mono (by omega)) (by rfl) T.g_Times (pa_cons pe_int (pa_cons (kfld (K := K) rfl (pv 5) rfl) pa_nil))) pa_nil)) pa_nil)) pa_nil)) (pe_tup (pa_cons pe_int (pa_cons pe_int (pa_cons pe_int pa_nil)))) (nomark _)) (pss_one (ps_ret pe_bl)) pss_nil)
  (pss_cons (ps_if (pt_cmpR (kop_neD (K := K) rfl hr.units) (pe_callF (xk_measures (K := K) T) (hr.mono (by omega)) (by rfl) T.g_measures T.k_measures (pa_cons (pe_makeF T.k_Program (xk_Program_init1 (K := K) T) (hr.mono (by omega)) (by rfl) T.g_Program (pa_cons (pe_lst (pa_cons (pe_makeF T.k_If (xk_If_init2 (K := K) T) (hr.mono (by omega)) (by rfl) T.g_If (pa_cons (pe_makeF T.k_Ask (xk_Ask_init (K := K) T) (hr.mono (by omega)) (by rfl) T.g_Ask (pa_cons pe_str (pa_cons (pv 7) (pa_cons (pv 8) pa_nil)))) (pa_cons (kfld (K := K) rfl (pv 5) rfl) pa_nil))) pa_nil)) pa_nil)) pa_nil)) (pv 9) (nomark _)) (pss_one (ps_ret pe_bl)) pss_nil)
  (pss_cons (ps_set (i := 11) sc_law.nd rfl (Or.inl rfl) (pe_callF (ok_law_pick (K := K) T) (hr.mono (by omega)) (by rfl) T.g_law_pick T.k_law_pick (pa_cons (pv 1) (pa_cons (pe_lst (pa_cons (pe_makeF T.k_Ask (xk_Ask_init (K := K) T) (hr.mono (by omega)) (by rfl) T.g_Ask (pa_cons pe_str (pa_cons (pv 7) (pa_cons (pv 8) pa_nil)))) (pa_cons (pe_makeF T.k_Ask (xk_Ask_init (K := K) T) (hr.mono (by omega)) (by rfl) T.g_Ask (pa_cons pe_str (pa_cons (pv 7) (pa_cons (pv 8) pa_nil)))) (pa_cons (pe_makeF T.k_Ask (xk_Ask_init (K := K) T) (hr.mono (by omega)) (by rfl) T.g_Ask (pa_cons pe_str (pa_cons (pv 7) pa_nil))) pa_nil)))) pa_nil))))
  (pss_cons (ps_if (pt_cmpR (kop_neD (K := K) rfl hr.units) (pe_callK (xkK_measures (K := K) T) (hr.mono (by omega)) (by rfl) T.g_measures T.k_measures (pa_cons (pv 5) pa_nil) (pk_cons (pe_makeF T.k_Not (xk_Not_init (K := K) T) (hr.mono (by omega)) (by rfl) T.g_Not (pa_cons (pv 11) pa_nil)) pk_nil)) (pe_callK (xkK_measures (K := K) T) (hr.mono (by omega)) (by rfl) T.g_measures T.k_measures (pa_cons (pv 5) pa_nil) (pk_cons (pv 11) pk_nil)) (nomark _)) (pss_one (ps_ret pe_bl)) pss_nil)
  (pss_cons (ps_setLc (i := 12) (own := [("_law_form", 16)]) rfl sc_law.nd rfl rfl (sw_true rfl rfl rfl (by decide +kernel)) (kpi_tup (K := K) rfl (pe_tup (pa_cons (pv 11) (pa_cons (pe_makeF T.k_Not (xk_Not_init (K := K) T) (hr.mono (by omega)) (by rfl) T.g_Not (pa_cons (pv 11) pa_nil)) (pa_cons (pe_makeF T.k_Not (xk_Not_init (K := K) T) (hr.mono (by omega)) (by rfl) T.g_Not (pa_cons (pe_makeF T.k_Not (xk_Not_init (K := K) T) (hr.mono (by omega)) (by rfl) T.g_Not (pa_cons (pv 11) pa_nil)) pa_nil)) pa_nil))))) (blkOk_by (own := [("_law_form", 16)]) (N := N_law) (sc := defScope s_law) (by decide +kernel)) (fun _ _ _ _ _ => (pg_name (i := 16) sc_law.nd rfl (Or.inl rfl))) (fun _ _ _ _ _ => pts_nil) (fun _ _ _ _ _ => (pe_makeF T.k_Program (xk_Program_init1 (K := K) T) (hr.mono (by omega)) (by rfl) T.g_Program (pa_cons (pe_lst (pa_cons (pe_makeF T.k_If (xk_If_init3 (K := K) T) (hr.mono (by omega)) (by rfl) T.g_If (pa_cons (pv 16) (pa_cons (kfld (K := K) rfl (pv 5) rfl) (pa_cons (kfld (K := K) rfl (pv 6) rfl) pa_nil)))) pa_nil)) pa_nil))))
  (pss_cons (ps_if (PW.pt (pw_or (pt_cmpR (kop_neD (K := K) rfl hr.units) (pe_callF (xk_measures (K := K) T) (hr.mono (by omega)) (by rfl) T.g_measures T.k_measures (pa_cons (pe_ix (kix_list (K := K) rfl) (pv 12) pe_int (fun _ _ => rfl)) pa_nil)) (pe_callF (xk_measures (K := K) T) (hr.mono (by omega)) (by rfl) T.g_measures T.k_measures (pa_cons (pe_ix (kix_list (K := K) rfl) (pv 12) pe_int (fun _ _ => rfl)) pa_nil)) (nomark _)) (pw_or1 (pt_cmpR (kop_neD (K := K) rfl hr.units) (pe_callF (xk_measures (K := K) T) (hr.mono (by omega)) (by rfl) T.g_measures T.k_measures (pa_cons (pe_ix (kix_list (K := K) rfl) (pv 12) pe_int (fun _ _ => rfl)) pa_nil)) (pe_callF (xk_measures (K := K) T) (hr.mono (by omega)) (by rfl) T.g_measures T.k_measures (pa_cons (pe_ix (kix_list (K := K) rfl) (pv 12) pe_int (fun _ _ => rfl)) pa_nil)) (nomark _))))) (pss_one (ps_ret pe_bl)) pss_nil)
  (pss_cons (ps_set (i := 13) sc_law.nd rfl (Or.inl rfl) (pe_op (op_addO (C := C_Program K) (xk_Program_add (K := K) T) (hr.mono (by omega)) T.x_first (He.eqO_ok (He.ba T.x_add).1) (He.ba T.x_add).2) (pv 5) (pe_makeF T.k_Program (xk_Program_init1 (K := K) T) (hr.mono (by omega)) (by rfl) T.g_Program (pa_cons (pe_lst (pa_cons (pe_makeF T.k_Put (xk_Put_init (K := K) T) (hr.mono (by omega)) (by rfl) T.g_Put (pa_cons (pv 7) (pa_cons pe_str (pa_cons (pv 8) (pa_cons (pv 7) pa_nil))))) pa_nil)) pa_nil))))
  (pss_one (ps_if (pt_cmpR op_ne (pe_ix (kix_tup (K := K) rfl) (pe_callK (xkK_measures (K := K) T) (hr.mono (by omega)) (by rfl) T.g_measures T.k_measures (pa_cons (pv 5) pa_nil) (pk_cons (pe_makeF T.k_Ask (xk_Ask_init (K := K) T) (hr.mono (by omega)) (by rfl) T.g_Ask (pa_cons pe_str (pa_cons (pv 7) (pa_cons (pv 8) pa_nil)))) pk_nil)) pe_int (fun _ _ => rfl)) (pe_ix (kix_tup (K := K) rfl) (pe_callF (xk_measures (K := K) T) (hr.mono (by omega)) (by rfl) T.g_measures T.k_measures (pa_cons (pv 13) pa_nil)) pe_int (fun _ _ => rfl)) (nomark _)) (pss_one (ps_ret pe_bl)) pss_nil)))))))))))))))))
  (pss_one (ps_ret pe_bl)))), ?_⟩
  dsimp only [cxOf]
  refine ⟨_, rfl, s, ns, rfl, hs, fun a cl H1 m1 => ?_⟩
  refine ⟨2, rfl, by decide, by decide, ?_⟩
  refine for_it walk_range (fun i σ' H' => ∃ o2 o3 o4 o5 o6 o7 o8 o9 o10 o11 o12 o13 o14 o15 o16 : Option V, DlAt H H' a cl ∧ σ' = [some (.ref s), some (.ref a), o2, o3, o4, o5, o6, o7, o8, o9, o10, o11, o12, o13, o14, o15, o16]) ⟨_, _, _, _, _, _, _, _, _, _, _, _, _, _, _, m1, rfl⟩ (fun _ _ _ _ _ => trivial) (fun i x σ' H1 H2 hi z yx => ?_) fun σ' H' z => ?_
  rotate_left
  · exact k H'
  obtain ⟨o2, o3, o4, o5, o6, o7, o8, o9, o10, o11, o12, o13, o14, o15, o16, m2, rfl⟩ := z
  obtain ⟨rfl, rfl⟩ := yx
  refine ⟨_, rfl, _, rfl, a, cl, 4, H, rfl, m2, ⟨by decide, by decide⟩, fun d H3 hd m3 => ⟨_, _, rfl, rfl, a, cl, _, H, rfl, m3, ⟨by omega, by omega⟩, fun pn NS Hb H4 eb m4 hpn hl hnm => ?_⟩⟩
  have hn20 : NS.length ≤ 20 := by omega
  dsimp only [tSeq, tAsg, gName, List.set]
  refine dl_lcG (K := K) (a := a) (cl := cl) (n := 2) (SideAt K NS) (fun e z => z.mono e) (fun hD hq z => z.keep hD hq) (by decide) m4 (fun R kR => kR) (fun i' H5 Hb5 hi' e5 m5 R kR => ⟨rfl, ?_⟩) fun D qs Hb6 H6 e6 hD m6 hl6 hg => ?_
  · refine ⟨_, rfl, _, rfl, a, cl, pn, 1, 4, NS, Hb5, rfl, rfl, m5, e5 _ _ hpn, ⟨hl, by decide, by decide⟩, fun p ws bs Hb7 H7 e7 m7 hp7 hr7 c7 => ?_⟩
    obtain ⟨c7, _, w7⟩ := c7
    refine ⟨p, ws, bs, NS, rfl, sq_of (m7.ex _ _ hp7), Paired.mapP hr7 fun _ _ z => z.mono m7.ex, ⟨w7, c7, hn20⟩, fun p8 ws8 bs8 H8 _ e8 h8 r8 c8 => ?_⟩
    obtain ⟨w8, c8⟩ := c8
    refine ⟨p8, ws8, bs8, NS, rfl, sq_of h8, r8, ⟨w8, by omega, hn20⟩, fun p9 ws9 bs9 H9 hp9 e9 h9 r9 c9 => ?_⟩
    obtain ⟨w9, c9⟩ := c9
    have m8 := m7.mono e8
    have m9 := m8.mono e9
    obtain ⟨n1, n2⟩ := m8.ne1 hp9
    exact kR p9 H9 (rm2 H9 a cl) (e7.trans m9.sub) m9.big ⟨p9, ws9, bs9, rfl, rm2_of h9 n1 n2, Paired.mapP r9 fun _ _ z => z.map fun _ _ h => m9.keepT h, w9, by omega⟩ (fresh_back (e7.trans m8.ex) hp9)
  obtain ⟨s1, s2, rfl⟩ : ∃ s1 s2, qs = [s1, s2] := by
    match qs, hl6 with
    | [s1, s2], _ => exact ⟨s1, s2, rfl⟩
  have hD6 := m6.ex _ _ hD
  refine ⟨_, rfl, D, rfl, ⟨_, sq_of hD6⟩, fun E0 hE => ?_⟩
  refine lc_good walk_list hE (fun H' e => sq_of (e _ _ hD6)) (fun _ => true) (fun H' _ y => MadeAt K NS H' y) (fun hD hl z => by obtain ⟨p, rs, h1, h2, h3⟩ := z; exact ⟨p, rs, h1, h2.wr hD hl, h3⟩) (fun e z => by obtain ⟨p, rs, h1, h2, h3⟩ := z; exact ⟨p, rs, h1, h2.mono e, h3⟩) (show 2 ≤ 10000 by decide) (fun x hx H7 e7 => ⟨rfl, fun H8 e8 Q8 q8 => q8 H8 (Ex.refl H8), fun _ H8 e8 R kR => ?_⟩) fun ys H7 e7 hE7 hpy => ?_
  · have hx' : SideAt K NS Hb6 x := by
      obtain ⟨p, hp, rfl⟩ := List.mem_map.mp hx
      exact hg p hp
    obtain ⟨sd, ws, bs, rfl, g1, g2, g3, g4⟩ := SideAt.mono (m6.ex.trans (e7.trans e8)) hx'
    refine ⟨_, rfl, NS, sd, ws, bs, rfl, sq_of g1, g2, ⟨g3, g4, hnm, hn20⟩, fun q H9 e9 z => kR _ _ e9 ⟨q, _, rfl, z, ?_⟩⟩
    rw [List.length_map]
    exact Nat.le_trans (len_cntS bs) g4
  rw [List.filter_eq_self.mpr fun _ _ => rfl] at hpy
  obtain ⟨_, _, y1, y2, rfl, ⟨p1, rs, rfl, hp1, l1⟩, p2, os, rfl, hp2, l2⟩ := paired2' hpy (show 2 = 2 from rfl)
  have m7 := m6.mono e7
  refine ⟨E0, _, rfl, sq_of hE7, rfl, _, _, rfl, _, _, rfl, rfl, ?_⟩
  have hpn6 := e6 _ _ hpn
  have hpn7 := m7.sub _ _ hpn6
  have hlM : 1 ≤ (NS.map V.str).length ∧ (NS.map V.str).length ≤ 1000 := by rw [List.length_map]; omega
  -- x, y
  refine ⟨_, rfl, _, rfl, a, cl, pn, NS.map V.str, rm2 H7 a cl, rfl, m7.big, sq_of hpn7, hlM, fun v hv H8 m8 => ?_⟩
  obtain ⟨x, hx, rfl⟩ := List.mem_map.mp hv
  have hp1 := hp1.dl m7 m8
  have hp2 := hp2.dl m7 m8
  refine ⟨_, rfl, _, rfl, a, cl, pn, NS.map V.str, rm2 H8 a cl, rfl, m8.big, sq_of (m8.sub _ _ hpn7), hlM, fun v hv H9 m9 => ?_⟩
  obtain ⟨y, hy, rfl⟩ := List.mem_map.mp hv
  have hp1 := hp1.dl m8 m9
  have hp2 := hp2.dl m8 m9
  have m9 : DlAt Hb6 H9 a cl := m9.down (m7.sub.trans m8.sub)
  refine ⟨_, _, rfl, ?_⟩
  -- here, both
  have wrs := hp1.wf
  have wos := hp2.wf
  dsimp only [tSeq, tAsg, gName, List.set, tTup, tCons]
  refine em_call (ep_var rfl hp1) H9 (Ex.refl _) _ fun ph H10 e10 hh => ?_
  have hp1 := hp1.mono e10
  have hp2 := hp2.mono e10
  have m10 := m9.mono e10
  refine em_call (ep_add (ep_var rfl hp1) (ep_var rfl hp2) (by omega)) H10 (Ex.refl _) _ fun pb H11 e11 hb => ?_
  have hp1 := hp1.mono e11
  have hp2 := hp2.mono e11
  have m11 := m10.mono e11
  have hh := ex_t e11 hh
  refine ⟨sz2, fun u hu => ?_⟩
  have x12 := Ex.new (H := H11) (o := .tup [V.ref ph, V.ref pb]) hu
  refine ⟨u, _, rfl, SqT.of upd_same, rfl, _, _, rfl, _, _, rfl, rfl, ?_⟩
  have hp1 := hp1.mono x12
  have hp2 := hp2.mono x12
  have m12 := m11.mono x12
  have hh := ex_t x12 hh
  have hb := ex_t x12 hb
  generalize upd H11 u (.tup [V.ref ph, V.ref pb]) = H12 at hp1 hp2 m12 hh hb ⊢
  have u1 := up_go 2 rs ms0 wrs ms0_ok
  have u2 : Up (goM 2 rs ms0) (goM 2 (rs ++ os) ms0) := by
    rw [show goM 2 (rs ++ os) ms0 = goM 2 os (goM 2 rs ms0) from goM_app (d := 1) rs os ms0]
    exact up_go 2 os _ wos u1.ok
  have w3 : ∀ n, n ≤ 4 → Rw.wf NS 3 (RF.times n rs : RF (Rw 2)) := fun n hn => ⟨hn, by omega, wrs⟩
  refine q_when (et_or (et_noneLess (fun x => rfl) (fun x => rfl) (fun x => ⟨rfl, rfl⟩) hh hb u2.long u2.wide u2.per) fun _ => et_neM (em_call (ep_add (ep_new0 hn20) (ep_var rfl hp1) (show 0 + rs.length ≤ 24 by omega))) (em_var rfl hh) rfl) (fun h => nomatch h) fun _ H13 e13 => ?_
  have hp1 := hp1.mono e13
  have hp2 := hp2.mono e13
  have m13 := m12.mono e13
  have hh := ex_t e13 hh
  refine q_when (et_lenAnd rfl hp1 (et_neM (em_call (ep_new1 (er_times T (n := 2) rfl hp1 (by decide) (by omega) (by decide)) (w3 2 (by decide)) (by decide) hn20)) (em_call (ep_add (ep_var rfl hp1) (ep_var rfl hp1) (by omega))) (congrArg tri (goM_twice (d := 1) rs ms0)))) (fun h => nomatch h) fun _ H14 e14 => ?_
  have hp1 := hp1.mono e14
  have hp2 := hp2.mono e14
  have m14 := m13.mono e14
  have hh := ex_t e14 hh
  refine q_when (et_neM (em_call (ep_new1 (er_times T (n := 0) rfl hp1 (by decide) (by omega) (by decide)) (w3 0 (by decide)) (by decide) hn20)) em_111 rfl) (fun h => nomatch h) fun _ H15 e15 => ?_
  have hp1 := hp1.mono e15
  have hp2 := hp2.mono e15
  have m15 := m14.mono e15
  have hh := ex_t e15 hh
  have wask2 : ∀ word ∈ (["same", "less", "divides"] : List Str), (PT.ask word [x, y]).wf NS 0 := fun word hw => ⟨(show ∀ w ∈ (["same", "less", "divides"] : List Str), w ∈ (["same", "less", "divides", "mirrored", "unlike"] : List Str) by decide +kernel) word hw, by unfold askW; rw [if_pos hw]; rfl, fun z hz => by
    rcases List.mem_cons.mp hz with rfl | hz
    · exact hx
    · rw [List.mem_singleton.mp hz]; exact hy⟩
  have wask1 : (PT.ask "mirrored" [x]).wf NS 0 := ⟨by decide +kernel, (show 1 = askW "mirrored" by decide +kernel), fun z hz => by rw [List.mem_singleton.mp hz]; exact hx⟩
  refine q_when (et_neM (em_call (ep_new1 (er_if2 T (ek_ask2 (word := "same") rfl rfl hx hy hnm (by decide +kernel)) (PT.wf_up (n := 0) (by decide) (wask2 "same" (by decide +kernel))) rfl hp1 (by decide) (by omega)) ⟨PT.wf_up (n := 0) (by decide) (wask2 "same" (by decide +kernel)), ⟨by omega, wrs⟩, Nat.zero_le _, fun _ h => (nomatch h)⟩ (by decide) hn20)) (em_var rfl hh) (goM_block (d := 1) rs x y)) (fun h => nomatch h) fun _ H16 e16 => ?_
  have hp1 := hp1.mono e16
  have hp2 := hp2.mono e16
  have m16 := m15.mono e16
  have hh := ex_t e16 hh
  -- a test
  dsimp only [tSeq, tAsg, gName, List.set, tCallF, tCons, tLst]
  refine ⟨_, rfl, ?_⟩
  refine ek_ask2 (word := "divides") rfl rfl hx hy hnm (by decide +kernel) H16 (Ex.refl _) _ fun v1 H17 e17 t1 => ?_
  refine ek_ask2 (word := "less") rfl rfl hx hy hnm (by decide +kernel) H17 (Ex.refl _) _ fun v2 H18 e18 t2 => ?_
  refine ek_ask1 rfl hx hnm H18 (Ex.refl _) _ fun v3 H19 e19 t3 => ?_
  refine ⟨sz3, fun l hl => ?_⟩
  have x20 := Ex.new (H := H19) (o := .lst [v1, v2, v3]) hl
  have e20 := e17.trans (e18.trans (e19.trans x20))
  have hp1 := hp1.mono e20
  have hp2 := hp2.mono e20
  obtain ⟨la, lc⟩ := (m16.mono (e17.trans (e18.trans e19))).ne1 hl
  have m20 := m16.mono e20
  have hh := ex_t e20 hh
  have t1 := t1.mono (e18.trans (e19.trans x20))
  have t2 := t2.mono (e19.trans x20)
  have t3 := t3.mono x20
  have hl20 : (upd H19 l (.lst [v1, v2, v3])) l = some (.lst [v1, v2, v3]) := upd_same
  generalize upd H19 l (.lst [v1, v2, v3]) = H20 at hp1 hp2 m20 hh t1 t2 t3 hl20 ⊢
  refine ⟨a, cl, l, [v1, v2, v3], rm2 H20 a cl, rfl, m20.big, sq_of (rm2_of hl20 la lc), ⟨show 1 ≤ 3 by decide, show 3 ≤ 1000 by decide⟩, fun v hv H21 m21 => ?_⟩
  have ht : ∃ t : PT, TestAt K NS H20 v t ∧ t.wf NS 0 := by
    rcases List.mem_cons.mp hv with rfl | hv
    · exact ⟨_, t1, wask2 "divides" (by decide +kernel)⟩
    rcases List.mem_cons.mp hv with rfl | hv
    · exact ⟨_, t2, wask2 "less" (by decide +kernel)⟩
    · rw [List.mem_singleton.mp hv]
      exact ⟨_, t3, wask1⟩
  obtain ⟨t, ht, wt⟩ := ht
  have ht := ht.dl m20 m21
  have hp1 := hp1.dl m20 m21
  have hp2 := hp2.dl m20 m21
  have m21 : DlAt Hb6 H21 a cl := m21.down m20.sub
  have wt4 : t.wf NS 4 := PT.wf_up (n := 0) (by decide) wt
  have wn : (PT.not t).wf NS 1 := wt
  have wn4 : (PT.not t).wf NS 4 := PT.wf_up (n := 1) (by decide) wn
  have wnn4 : (PT.not (.not t)).wf NS 4 := PT.wf_up (n := 2) (m := 4) (t := .not (.not t)) (by decide) wt
  refine q_when (et_neM (em_callK (ep_var rfl hp1) (ek_not (ek_var rfl ht) wt4) wn4) (em_callK (ep_var rfl hp1) (ek_var rfl ht) wt4) rfl) (fun h => nomatch h) fun _ H22 e22 => ?_
  have hp1 := hp1.mono e22
  have hp2 := hp2.mono e22
  have m22 := m21.mono e22
  have ht := ht.mono e22
  -- blocks
  dsimp only [tSeq, tAsg, gName, List.set, tTup, tCons]
  refine ⟨_, rfl, ?_⟩
  refine ek_not (ek_var rfl ht) wt4 H22 (Ex.refl _) _ fun n1 H23 e23 tn1 => ?_
  refine ek_not (ek_not (ek_var rfl (ht.mono e23)) wt4) wn4 H23 (Ex.refl _) _ fun n2 H24 e24 tn2 => ?_
  refine ⟨sz3, fun u hu => ?_⟩
  have x25 := Ex.new (H := H24) (o := .tup [v, n1, n2]) hu
  have e25 := e23.trans (e24.trans x25)
  have hp1 := hp1.mono e25
  have hp2 := hp2.mono e25
  have m25 := m22.mono e25
  have ht := ht.mono e25
  have tn1 := tn1.mono (e24.trans x25)
  have tn2 := tn2.mono x25
  have hu25 : SqT K (upd H24 u (.tup [v, n1, n2])) u [v, n1, n2] := SqT.of upd_same
  generalize upd H24 u (.tup [v, n1, n2]) = H25 at hp1 hp2 m25 ht tn1 tn2 hu25 ⊢
  have all3 : ∀ z ∈ [v, n1, n2], ∃ t' : PT, TestAt K NS H25 z t' ∧ t'.wf NS 4 ∧ lookM t' = lookM t := fun z hz => by
    rcases List.mem_cons.mp hz with rfl | hz
    · exact ⟨t, ht, wt4, rfl⟩
    rcases List.mem_cons.mp hz with rfl | hz
    · exact ⟨_, tn1, wn4, rfl⟩
    · rw [List.mem_singleton.mp hz]
      exact ⟨_, tn2, wnn4, rfl⟩
  refine ⟨u, rfl, ⟨_, hu25⟩, fun E1 hE1 => ?_⟩
  refine lc_good walk_tup hE1 (fun H' e => ex_t e hu25) (fun _ => true) (fun H' _ y => ∃ (p : Addr) (t' : PT), y = .ref p ∧ lookM t' = lookM t ∧ ProgAt K NS 3 H' p [(RF.ife t' rs os : RF (Rw 2))]) (fun hD hl z => by obtain ⟨p, t', h1, h2, h3⟩ := z; exact ⟨p, t', h1, h2, h3.wr hD hl⟩) (fun e z => by obtain ⟨p, t', h1, h2, h3⟩ := z; exact ⟨p, t', h1, h2, h3.mono e⟩) (show 3 ≤ 10000 by decide) (fun z hz H26 e26 => ⟨rfl, fun H8 e8 Q8 q8 => q8 H8 (Ex.refl H8), fun _ H27 e27 R kR => ?_⟩) fun ys H26 e26 hE26 hpy => ?_
  · obtain ⟨t', ht', wt', et'⟩ := all3 z hz
    have e27' := e26.trans e27
    exact ep_new1 (er_if3 T (ek_var rfl (ht'.mono e27')) wt' rfl (hp1.mono e27') rfl (hp2.mono e27') (by decide) (by omega) (by omega)) ⟨wt', ⟨by omega, wrs⟩, by omega, wos⟩ (by decide) hn20 H27 (Ex.refl _) _ fun p H28 e28 hp28 => kR _ _ e28 ⟨p, t', rfl, et', hp28⟩
  rw [List.filter_eq_self.mpr fun _ _ => rfl] at hpy
  obtain ⟨b1, b2, b3, rfl, ⟨q1, u1', rfl, l1', g1⟩, ⟨q2, u2', rfl, l2', g2⟩, q3, u3', rfl, l3', g3⟩ : ∃ b1 b2 b3, ys = [b1, b2, b3] ∧ (∃ (p : Addr) (t' : PT), b1 = .ref p ∧ lookM t' = lookM t ∧ ProgAt K NS 3 H26 p [(RF.ife t' rs os : RF (Rw 2))]) ∧ (∃ (p : Addr) (t' : PT), b2 = .ref p ∧ lookM t' = lookM t ∧ ProgAt K NS 3 H26 p [(RF.ife t' rs os : RF (Rw 2))]) ∧ ∃ (p : Addr) (t' : PT), b3 = .ref p ∧ lookM t' = lookM t ∧ ProgAt K NS 3 H26 p [(RF.ife t' rs os : RF (Rw 2))] := by
    cases hpy with
    | cons r1 h1 =>
      cases h1 with
      | cons r2 h2 =>
        cases h2 with
        | cons r3 h3 =>
          cases h3
          exact ⟨_, _, _, rfl, r1, r2, r3⟩
  have hp1 := hp1.mono e26
  have hp2 := hp2.mono e26
  have m26 := m25.mono e26
  have lk : ∀ t' t'' : PT, lookM t' = lookM t → lookM t'' = lookM t → tri (goM 3 [(RF.ife t' rs os : RF (Rw 2))] ms0) = tri (goM 3 [(RF.ife t'' rs os : RF (Rw 2))] ms0) := fun t' t'' h1 h2 => congrArg tri (goM_look (d := 1) (h1.trans h2.symm) rs os ms0)
  refine s_when (et_or (et_neM (em_call (ep_ixL rfl hE26 at0 g1)) (em_call (ep_ixL rfl hE26 at1 g2)) (lk _ _ l1' l2')) fun _ => et_neM (em_call (ep_ixL rfl hE26 at1 g2)) (em_call (ep_ixL rfl hE26 (atI_nat (j := 2) rfl) g3)) (lk _ _ l2' l3')) (fun h => nomatch h) fun _ H27 e27 => ?_
  have hp1 := hp1.mono e27
  have hp2 := hp2.mono e27
  have m27 := m26.mono e27
  dsimp only [tSeq, tAsg, gName, List.set]
  refine ep_add (ep_var rfl hp1) (ep_new1 (er_put (d := 1) rfl rfl hx hy hnm) ⟨hx, by decide +kernel, hy, hx⟩ (by decide) hn20) (show rs.length + 1 ≤ 24 by omega) H27 (Ex.refl _) _ fun pb2 H28 e28 hpb => ?_
  have hp1 := hp1.mono e28
  have m28 := m27.mono e28
  refine s_when (et_neP (em_callK (ep_var rfl hp1) (ek_ask2 (word := "divides") rfl rfl hx hy hnm (by decide +kernel)) (PT.wf_up (n := 0) (by decide) (wask2 "divides" (by decide +kernel)))) (em_call (ep_var rfl hpb)) (goM_rest (d := 1) rs x y)) (fun h => nomatch h) fun _ H29 e29 => ?_
  exact ⟨_, _, _, _, _, _, _, _, _, _, _, _, _, _, _, (m28.mono e29).down (eb.trans e6), rfl⟩
end
end E97
set_option Elab.async false
set_option linter.all false
set_option maxRecDepth 100000
set_option maxHeartbeats 4000000
/-! E97J: the promise as the head wants it -/
namespace E97
open PySem PySem.Spec PyProof.Rows L2 Evl NdefX
theorem fin {w : World} {K : PySem.W.Frag} {mg : Str → Option Value} {h : Heap} {fa : Addr} (T : Txt w K mg) (KX : K.In h) (hmg : mg ("law" : Str) = some (.ref fa)) :
    ∃ (K : PySem.W.Frag) (fd : FuncData) (sp : Sp), K.In h ∧ (∀ (s : Shared) (u : Value), BindsTo s fd ⟨[u], []⟩ [(("_law_script" : Str), u)]) ∧
      (∀ (H : Hp) (a : Addr) (ns : List Int), ns.length ≤ 63 → Only H → SqL K H a (ns.map V.int) → sp [.ref a] H (fun v _ => v = .bl true) fun _ _ _ => False) ∧
      ∀ base : Heap, K.In base → base.Ns mainGlobals mg → FnOk PySem.Challenge.rw_everybase_k97_whole_measures_of_programs.prog w K mg base CX0 200 fa fd [("_law_script" : Str)] sp := by
  obtain ⟨fd, F⟩ := T.d_law
  have ef : fa = a_law K := by
    rw [T.g_law] at hmg
    exact (Value.ref.inj (Option.some.inj hmg)).symm
  subst ef
  refine ⟨K, fd, fun vs H Q _ => sp_law K vs H Q, KX, fun s u => ?_, fun H a ns _ _ hs => ⟨a, ns, rfl, hs, fun H' => rfl⟩, fun base _ _ => ?_⟩
  · obtain ⟨oc, od, dV, kV, doc, pm, an, cdv, ct, osl, rfl, lk, hcd, hD, hK⟩ := F.ex
    rcases hD with ⟨_, rfl⟩ | ⟨e, _⟩
    · exact .of_eq rfl
    · exact absurd rfl e
  · exact (okF_law (base := base) T F).mono (by decide)
end E97
open PySem PySem.W PyProof.Rows
theorem PySem.Challenge.cw_everybase_k97_whole_measures_of_programs_holds : PySem.Challenge.rw_everybase_k97_whole_measures_of_programs.Holds :=
  E97.head fun w mg fa h K T KX hmg => E97.fin T KX hmg
