import PyProof.Rows.All
import Wide.All
import OpenK.AllK
import Wide.FinOn
import HandS.ForMost
import HandS.SortKw
import HandS.EndTab
import HandS.IsInst
import HandS.StrMore
import HandS.TupLe
import HandS.WideBits
import HandS.Walk
import HandS.Deep
import HandS.ListItems
import HandS.Conv
import HandS.More
import PyProof.ReprRoads
import KE.SortKeyHeap
import KE.KDictCopyH
import PyProof.ReprLen
import PySem.Challenge.RW_missedparts_k11_whole_parts_of_texts
set_option Elab.async false
set_option linter.all false
set_option maxRecDepth 100000
set_option maxHeartbeats 4000000
/-! Defs that know that no repr is under way. -/
namespace L3
open PySem PySem.Spec PyProof.Rows L2
/-- as FnOk, where no guard stands around -/
structure FnOkG (P : Program) (w : World) (K : PySem.W.Frag) (mg : Str → Option Value) (base : Heap) (CX : CXT) (k : Nat) (f : Addr) (fd : FuncData) (ps : List Str) (sp : Sp) : Prop where
  len : ∀ vs H Q E, sp vs H Q E → vs.length = ps.length
  run : ∀ (A : Around) (outer : List Env) (s : Shared) (H : Hp) (args : Args) (us : List Value) (vs : List V) (Q : VK) (E : XK), Room k A → A.guards = some [] → Env0 P w K mg base A outer s H → BindsTo s fd args (ps.zip us) → Vals vs us → sp vs H Q E →
    codeAny (model P w) A (.call (.ref f) args) (CR CX outer P w H s Q E) s
theorem FnOkG.of {P : Program} {w : World} {K : PySem.W.Frag} {mg : Str → Option Value} {base : Heap} {CX : CXT} {k : Nat} {f : Addr} {fd : FuncData} {ps : List Str} {sp : Sp} (F : FnOk P w K mg base CX k f fd ps sp) : FnOkG P w K mg base CX k f fd ps sp :=
  ⟨F.len, fun A outer s H args us vs Q E hr _ => F.run A outer s H args us vs Q E hr⟩
theorem FnOkG.mono {P : Program} {w : World} {K : PySem.W.Frag} {mg : Str → Option Value} {base : Heap} {CX : CXT} {j k : Nat} {f : Addr} {fd : FuncData} {ps : List Str} {sp : Sp} (F : FnOkG P w K mg base CX j f fd ps sp) (h : j ≤ k) : FnOkG P w K mg base CX k f fd ps sp :=
  ⟨F.len, fun A outer s H args us vs Q E hr => F.run A outer s H args us vs Q E (hr.mono h)⟩
section
variable {P : Program} {w : World} {K : PySem.W.Frag} {mg : Str → Option Value} {base : Heap}
theorem fn_ofG {CX : CXT} {k : Nat} {f : Addr} {name qual : Str} {params : Arguments} {body : List Stmt} {scope : Scope} {dV kV doc pm cdv ct oc : Value} {an od : Option Addr}
    {osl : Array (Option Value)} {N ps : List Str} {sp : Sp} (lk : K.lookup f = some ⟨oc, od, .func (PySem.W.fnOf name qual params body scope dV kV doc pm an cdv ct), osl⟩) (hcd : PySem.W.codeIn K cdv qual = true) (S : FnScope N ps scope)
    (len : ∀ vs H Q E, sp vs H Q E → vs.length = ps.length)
    (hbody : ∀ (A : Around) (outer : List Env) (s : Shared) (H : Hp) (vs : List V) (Q : VK) (E : XK), Room k (A.deeper (envOfC qual scope s.heap.objs.size f cdv)) → A.guards = some [] → sp vs H Q E →
      ∃ t, PSs (cxOf CX P w K mg base N qual scope f cdv A outer s H E) body t ∧ t { nx := fun _ H' => Q .non H', rt := Q } (L2.start N vs) H) :
    FnOkG P w K mg base CX (k + 1) f (PySem.W.fnOf name qual params body scope dV kV doc pm an cdv ct) ps sp := by
  refine ⟨len, fun A outer s H args us vs Q E hr hg e0 hb r hsp => ?_⟩
  exact LamX.run_ofS lk hcd S hr e0 hb r (len _ _ _ _ hsp) fun hr' => hbody A outer s H vs Q E hr' hg hsp
theorem okG {x qual : Str} {st : Stmt} {f : Addr} {fd : FuncData} {N ps : List Str} {k : Nat} {sp : Sp} (F : Fun K x qual st f fd) (S : FnScope N ps (defScope st)) (len : ∀ vs H Q E, sp vs H Q E → vs.length = ps.length)
    (hbody : ∀ (cdv : Value) (A : Around) (outer : List Env) (s : Shared) (H : Hp) (vs : List V) (Q : VK) (E : XK), Room k (A.deeper (envOfC qual (defScope st) s.heap.objs.size f cdv)) → A.guards = some [] → sp vs H Q E →
      ∃ t, PSs (cxOf CX0 P w K mg base N qual (defScope st) f cdv A outer s H E).nox (defBody st) t ∧ t { nx := fun _ H' => Q .non H', rt := Q } (L2.start N vs) H) : FnOkG P w K mg base CX0 (k + 1) f fd ps sp := by
  obtain ⟨oc, od, kV, doc, pm, an, cdv, ct, osl, rfl, lk, hcd⟩ := F.ex
  refine fn_ofG lk hcd S len fun A outer s H vs Q E hr hg hsp => ?_
  obtain ⟨t, h, q⟩ := hbody cdv A outer s H vs Q E hr hg hsp
  exact ⟨t, h.nox, q⟩
end
section
variable {X : Cx} {CX : CXT} {k : Nat} {f : Addr} {fd : FuncData} {ps ks : List Str} {sp : Sp} {E : XK} {x : Str} {p pos : Pos} {e : Expr} {es : List Expr} {kws : List Keyword} {t tk : TA} {g : List Value → List Value → List Value} {gV : List V → List V → List V}
theorem run_fnG {pins : List (Addr × Obj)} {σ : L2.St} {H : Hp} {s : Shared} {Q : VK} {us ws : List Value} {vs : List V} {kw : List (Str × Value)} (F : FnOkG X.prog X.w X.K X.mg X.base CX k f fd ps sp) (hr : Room k X.A) (hG : X.A.guards = some []) (hx : Passes CX X E)
    (I : Inv X pins σ H s) (hb : BindsTo s fd ⟨us, kw⟩ (ps.zip ws)) (r : Vals vs ws) (h : sp vs H Q E) : wpAny (model X.prog X.w) X.A (call (.ref f) us kw) (EP X pins σ Q) X.xe s := by
  refine wpAny_call (codeAny_mono (F.run X.A X.stack s H ⟨us, kw⟩ ws vs Q E hr hG I.env0 hb r h) fun r s' hq => ?_)
  cases r with
  | error e => exact hx pins σ H s e s' I hq
  | ok fl =>
    cases fl with
    | ret u => exact I.after hq
    | next => exact False.elim hq
    | brk => exact False.elim hq
    | cont => exact False.elim hq
/-- f(e, ..) -/
theorem pe_callG (F : FnOkG X.prog X.w X.K X.mg X.base CX k f fd ps sp) (hr : Room k X.A) (hG : X.A.guards = some []) (hg : Gl X x) (hm : X.mg x = some (.ref f)) (hk : PySem.W.keepIn X.K (.ref f) = true) (hb : L2.Binds X.K fd ps []) (hx : Passes CX X E)
    (ha : PA X (e :: es) t) (hdb : (x == ("__debug__" : Str)) = false := by decide) (he : starEach (e :: es) X.env = (false, eval e X.env) :: starEach es X.env := by rfl) (hpl : (backTo pos (starEach es X.env)).any (·.1) = false := by rfl) :
    PE X (.Call (.Name x p) (e :: es) [] pos) (tCall sp [] E t) := by
  refine ⟨fun pins s σ H Q I h => ?_⟩
  refine wpAny_Call_Name_kw (ld_glob I hg hm ?_ hdb)
  refine PySem.W.callWith_K (h₀ := X.base) I.ok.mod.kin hk (thn (ha.run pos pins s σ H _ I h) fun us s1 ⟨vs, H1, I1, r, q⟩ => ⟨I1.kIn, ?_⟩) he hpl
  have q : sp (vs ++ []) H1 Q E := q
  rw [List.append_nil] at q
  have hl : (us ++ []).length = ps.length := by rw [List.append_nil, ← r.length]; exact F.len _ _ _ _ q
  exact run_fnG F hr hG hx I1 (hb s1 us I1.kIn hl) (by rw [List.append_nil]; exact r) q
/-- f(k = v, ..), keywords alone -/
theorem pe_callK0 (F : FnOkG X.prog X.w X.K X.mg X.base CX k f fd ps sp) (hr : Room k X.A) (hG : X.A.guards = some []) (hg : Gl X x) (hm : X.mg x = some (.ref f)) (hk : PySem.W.keepIn X.K (.ref f) = true) (hb : KBinds X.K fd ps ks g gV) (hx : Passes CX X E)
    (hkw : PK X kws tk) (hall : (backToKw pos (keywordEach kws X.env)).all (·.1.isSome) = true := by rfl) (hks : (backToKw pos (keywordEach kws X.env)).filterMap (·.1) = ks := by rfl)
    (hdb : (x == ("__debug__" : Str)) = false := by decide)
    (hpl : ((backTo pos (starEach [] X.env)).any (·.1) || (backToKw pos (keywordEach kws X.env)).any (·.1.isNone)) = false := by rfl) :
    PE X (.Call (.Name x p) [] kws pos) (tCallK sp gV E tNil tk) := by
  refine ⟨fun pins s σ H Q I h => ?_⟩
  refine wpAny_Call_Name_kw (ld_glob I hg hm ?_ hdb)
  refine PySem.W.callWith_KW0 (h₀ := X.base) I.ok.mod.kin hk hall (thn (hkw.run pos pins s σ H _ I h) fun ws s2 ⟨zs, H2, I2, rz, q2⟩ => ⟨I2.kIn, ?_⟩) hpl
  rw [hks]
  have r2 := hb.rel (vs := []) (us := []) .nil rz
  have hl : (g [] ws).length = ps.length := by rw [← r2.length]; exact F.len _ _ _ _ q2
  exact run_fnG F hr hG hx I2 (hb.to s2 [] ws I2.kIn hl) r2 q2
end
end L3
/-! Rules for texts as lists of codes, repr of data, list(text), list(d.values()). -/
namespace L3
open PySem PySem.Spec PyProof.Rows L2
/-- a text by its codes -/
abbrev tS (l : List Nat) : Str := ⟨l.toArray⟩
abbrev tx (l : List Nat) : V := .str (tS l)
theorem tS_len (l : List Nat) : (tS l).length = l.length := by show l.toArray.size = _; simp
theorem tS_inj {a b : List Nat} (h : tS a = tS b) : a = b := by
  have h2 : a.toArray = b.toArray := congrArg Str.cps h
  simpa using congrArg Array.toList h2
theorem tS_eq (x : Str) : x = tS x.cps.toList := by cases x; simp [tS]
theorem tS_app (a b : List Nat) : tS a ++ tS b = tS (a ++ b) := by
  show (⟨a.toArray ++ b.toArray⟩ : Str) = _
  simp
theorem tx_inj {a b : List Nat} (h : tx a = tx b) : a = b := tS_inj (V.str.inj h)
theorem tx_dec (a b : List Nat) : decide (tx a = tx b) = decide (a = b) := by
  by_cases e : a = b
  · subst e; simp
  · rw [decide_eq_false e, decide_eq_false fun h => e (tx_inj h)]
section
variable {X : Cx}
theorem op_addT : OpR X (binaryOp .Add) (fun x y H Q => ∃ a b, x = tx a ∧ y = tx b ∧ a.length + b.length ≤ sizeLine ∧ Q (tx (a ++ b)) H) := by
  intro pins s σ H x y v u Q I rx ry h
  obtain ⟨a, b, rfl, rfl, hz, q⟩ := h
  exact op_add_str pins s σ H _ _ v u Q I rx ry ⟨_, _, rfl, rfl, by rw [tS_len, tS_len]; exact hz, by rw [tS_app]; exact q⟩
/-- a * n -/
def repL : Nat → List Nat → List Nat
  | 0, _ => []
  | n + 1, l => l ++ repL n l
theorem repL_len (n : Nat) (l : List Nat) : (repL n l).length = n * l.length := by
  induction n with
  | zero => simp [repL]
  | succ n ih => rw [repL, List.length_append, ih, Nat.succ_mul]; omega
theorem fold_rep (l : List Nat) : ∀ (n : Nat) (acc : Array Nat), (List.replicate n l.toArray).foldl (· ++ ·) acc = acc ++ (repL n l).toArray
  | 0, acc => by simp [repL]
  | n + 1, acc => by
    rw [List.replicate_succ, List.foldl_cons, fold_rep l n, repL]
    simp
theorem mul_tS (l : List Nat) (n : Nat) : Txt.mul (tS l) (n : Int) = tS (repL n l) := by
  unfold Txt.mul
  by_cases h : (n : Int) < 1
  · rw [if_pos h]
    have e : n = 0 := by omega
    subst e
    rfl
  · rw [if_neg h]
    split
    · rename_i hc
      rw [Bool.or_eq_true] at hc
      rcases hc with hc | hc
      · have e : n = 1 := by
          have := of_decide_eq_true hc
          omega
        subst e
        simp [repL]
      · have e : (tS l).length = 0 := by simpa using hc
        rw [tS_len] at e
        have e2 : l = [] := List.eq_nil_of_length_eq_zero e
        subst e2
        have : ∀ n, repL n [] = [] := fun n => by
          induction n with
          | zero => rfl
          | succ n ih => rw [repL, ih]; rfl
        rw [this]
    · rw [Int.toNat_natCast, fold_rep]
      simp
theorem op_mulT : OpR X (binaryOp .Mult) (fun x y H Q => ∃ (a : List Nat) (n : Nat), x = tx a ∧ y = .int (n : Int) ∧ n ≤ 1000000 ∧ a.length * n ≤ 1000000 ∧ Q (tx (repL n a)) H) := by
  intro pins s σ H x y v u Q I rx ry h
  obtain ⟨a, n, rfl, rfl, hn, hz, q⟩ := h
  obtain ⟨t, rfl⟩ := rx
  obtain ⟨t', rfl⟩ := ry
  have e63 : (2 : Int) ^ 63 = 9223372036854775808 := by decide
  refine SB.mul ⟨?_, fun h1 _ => ?_, fun _ _ => ?_⟩ fun t' k => ?_
  · rw [e63]
    simp only [Bool.or_eq_false_iff, decide_eq_false_iff_not]
    omega
  · rw [e63, tS_len]
    have hp : (0 : Int) < (n : Int) := by omega
    have hz2 : (a.length : Int) * (n : Int) ≤ 1000000 := by rw [← Int.natCast_mul]; exact Int.ofNat_le.mpr hz
    have h3 : (a.length : Int) ≤ (9223372036854775808 - 1) / (n : Int) := (Int.le_ediv_iff_mul_le hp).mpr (by omega)
    omega
  · rw [tS_len, Int.toNat_natCast]
    show decide (a.length * n > sizeLine) = false
    rw [sizeLine_eq]
    exact decide_eq_false (by omega)
  · rw [mul_tS]
    exact ⟨tx (repL n a), H, I.tok _, ⟨_, rfl⟩, q⟩
/-! ### slices of texts -/
theorem cut_pre (l : List Nat) (i : Nat) : cutS (tS l) none (some (i : Int)) = tS (l.take i) := by
  unfold cutS
  rw [HT.sIx_none, HT.sIx_nat, tS_len]
  show tS _ = _
  congr 1
  show (List.drop 0 l).take (min i l.length - 0) = l.take i
  rw [List.drop_zero, Nat.sub_zero]
  by_cases h : i ≤ l.length
  · rw [Nat.min_eq_left h]
  · rw [Nat.min_eq_right (by omega), List.take_of_length_le (Nat.le_refl _), List.take_of_length_le (by omega)]
theorem cut_suf (l : List Nat) (i : Nat) : cutS (tS l) (some (i : Int)) none = tS (l.drop i) := by
  unfold cutS
  rw [HT.sIx_none, HT.sIx_nat, tS_len]
  show tS _ = _
  congr 1
  show (List.drop (min i l.length) l).take (l.length - min i l.length) = l.drop i
  by_cases h : i ≤ l.length
  · rw [Nat.min_eq_left h, List.take_of_length_le (by rw [List.length_drop]; exact Nat.le_refl _)]
  · rw [Nat.min_eq_right (by omega), List.drop_of_length_le (Nat.le_refl _), List.drop_of_length_le (by omega)]
    simp
def rSlT' : V → Option Int → Option Int → Hp → VK → Prop := fun x lo hi H Q => ∃ l, x = tx l ∧ l.length ≤ sizeLine ∧
  ((lo = none ∧ ∃ i : Nat, hi = some (i : Int) ∧ Q (tx (l.take i)) H) ∨ (hi = none ∧ ∃ i : Nat, lo = some (i : Int) ∧ Q (tx (l.drop i)) H))
theorem sl_tx : SlR X rSlT' := by
  intro pins s σ H x v vl vu lo hi sl Q I rx hs pl pu h
  obtain ⟨l, rfl, hz, h⟩ := h
  refine sl_str pins s σ H _ v vl vu lo hi sl Q I rx hs pl pu ⟨_, rfl, by rw [tS_len]; exact hz, ?_⟩
  rcases h with ⟨rfl, i, rfl, q⟩ | ⟨rfl, i, rfl, q⟩
  · rw [cut_pre]; exact q
  · rw [cut_suf]; exact q
/-! ### slices of texts with a step -/
def stepL (l : List Nat) (k : Int) : List Nat := (Builtin.Str.strSliceIndices none none k l.length).filterMap (l[·]?)
theorem stepL_mem {l : List Nat} {k : Int} {c : Nat} (h : c ∈ stepL l k) : c ∈ l := by
  unfold stepL at h
  obtain ⟨i, _, e⟩ := List.mem_filterMap.mp h
  exact List.mem_of_getElem? e
theorem filterMap_len {α β : Type} (f : α → Option β) : ∀ l : List α, (l.filterMap f).length ≤ l.length
  | [] => Nat.le_refl _
  | a :: l => by
    have := filterMap_len f l
    rw [List.filterMap_cons]
    split
    · rw [List.length_cons]; omega
    · rw [List.length_cons, List.length_cons]; omega
theorem stepL_two (l : List Nat) : (stepL l 2).length ≤ l.length := by
  refine Nat.le_trans (filterMap_len _ _) ?_
  show (sliceRange 0 (l.length : Int) 2).length ≤ l.length
  unfold sliceRange
  simp only [List.length_map, List.length_range]
  rw [if_pos (by decide : (2 : Int) > 0)]
  by_cases h : (0 : Int) < (l.length : Int)
  · rw [if_pos h]
    omega
  · rw [if_neg h]
    simp
theorem stepL_rev (l : List Nat) : stepL l (-1) = l.reverse := by
  unfold stepL Builtin.Str.strSliceIndices
  show (sliceRange ((l.length : Int) - 1) (-1) (-1)).filterMap (l[·]?) = _
  rw [PySem.W.krv_sliceRange, PySem.W.krv_range, List.filterMap_reverse]
  have h := PySem.W.krv_all l.toArray
  congr 1
  have e : (fun i : Nat => l[i]?) = (fun i : Nat => l.toArray[i]?) := by
    funext i
    simp
  rw [e]
  simpa using h
def tStep (k : Int) (te : TE) : TE := fun σ H Q => te σ H fun x H1 => ∃ l, x = tx l ∧ l.length ≤ sizeLine ∧ (stepL l k).length ≤ sizeLine ∧ Q (tx (stepL l k)) H1
theorem pe_step {e st : Expr} {te ts : TE} {k : Int} {p3 pos : Pos} (he : PE X e te) (hst : PE X st ts) (hk : ∀ σ H (Q : VK), Q (.int k) H → ts σ H Q) (k1 : (k == 1) = false) (k0 : (k == 0) = false) : PE X (.Subscript e (.Slice none none (some st) p3) pos) (tStep k te) := by
  refine ⟨fun pins s σ H Q I h => ?_⟩
  refine Subscript_ (thn (he.run pins s σ H _ I h) fun v s1 ⟨x, H1, I1, r1, q1⟩ => ?_)
  obtain ⟨l, ex, hz, hz2, q⟩ := q1
  subst ex
  obtain ⟨t, rfl⟩ := r1
  have hso : PO X (some st) (tPart ts) := po_some hst
  refine wpAny_Slice (thn (po_none.run pins s1 σ H1 (fun o H2 => o = none ∧ H2 = H1) I1 ⟨rfl, rfl⟩) fun vl s2 ⟨lo, H2, I2, pl, el, e2⟩ => ?_)
  subst el e2
  refine thn (po_none.run pins s2 σ H2 (fun o H3 => o = none ∧ H3 = H2) I2 ⟨rfl, rfl⟩) fun vu s3 ⟨u, H3, I3, pu, eu, e3⟩ => ?_
  subst eu e3
  refine thn (hso.run pins s3 σ H3 (fun o H4 => o = some k ∧ H4 = H3) I3 (hk _ _ _ ⟨k, rfl, rfl, rfl⟩)) fun vs s4 ⟨o, H4, I4, ps, eo, e4⟩ => ?_
  subst eo e4
  have I5 : Inv X pins σ H4 { s4 with heap := s4.heap.push { cls := .type "slice", data := .fields #[vl, vu, vs] } } := I4.kept (t' := s4.toks) fun b ob q => Heap.get?_push_of_some _ q
  show wpAny (model X.prog X.w) X.A (subscriptTail e (.Slice none none (some st) p3) (.str (tS l) t) (.ref s4.heap.objs.size)) (EP X pins σ Q) X.xe { s4 with heap := s4.heap.push { cls := .type "slice", data := .fields #[vl, vu, vs] } }
  refine tail_any (ops := [.ref s4.heap.objs.size, .str (tS l) t]) (typeIs_str _ _ _) (F.slot_str_getitem.lookup) ?_ (by with_unfolding_all rfl)
  obtain ⟨l', rfl, e1⟩ := IsPart.raw pl
  obtain ⟨u', rfl, e2⟩ := IsPart.raw pu
  obtain ⟨k', rfl, e3⟩ := IsPart.raw ps
  have n1 : l' = none := by cases l' with | none => rfl | some a => cases e1
  have n2 : u' = none := by cases u' with | none => rfl | some a => cases e2
  subst n1 n2
  have e4 : (k'.map (·.1)).getD 1 = k := by rw [e3]; rfl
  refine wpAny_getItem_str_slice (l := none) (u := none) (st := k') ⟨_, Heap.get?_push_size _ rfl, rfl, rfl⟩ (by rw [e4]; exact k0) ?_
  have e5 : sliceMade (tS l) t none none k' = .str (tS (stepL l k)) := by
    unfold sliceMade slicePicked
    rw [e4, k1, Bool.false_and, if_neg Bool.false_ne_true]
    unfold stepL
    rw [tS_len]
    have e6 : (fun i : Nat => (tS l).cps[i]?) = (fun i : Nat => l[i]?) := by
      funext i
      simp [tS]
    show Made.str (tS (List.filterMap (fun i : Nat => (tS l).cps[i]?) _)) = _
    rw [e6]
    rfl
  rw [e5]
  exact ⟨by rw [tS_len]; exact hz2, tx (stepL l k), H4, I5.tok _, ⟨_, rfl⟩, q⟩
end
end L3
/-! repr of data, list(text), list(d.values()). -/
namespace L3
open PySem PySem.Spec PyProof.Rows L2
mutual
theorem dp_noDict {K : PySem.W.Frag} {H : Hp} : ∀ {v : V} {d : PyData}, Dp K H v d → d.hasDict = false
  | _, .none, _ => by simp only [PyData.hasDict]
  | _, .bool _, _ => by simp only [PyData.hasDict]
  | _, .int _, _ => by simp only [PyData.hasDict]
  | _, .str _, _ => by simp only [PyData.hasDict]
  | _, .list ds, h => by
    cases h with
    | lst hs ha => simp only [PyData.hasDict]; exact dpAll_noDict ha
  | _, .tuple ds, h => by
    cases h with
    | tup hs ha => simp only [PyData.hasDict]; exact dpAll_noDict ha
  | _, .dict _, h => by cases h
theorem dpAll_noDict {K : PySem.W.Frag} {H : Hp} : ∀ {vs : List V} {ds : List PyData}, DpAll K H vs ds → PyData.hasDictAll ds = false
  | _, [], _ => by simp only [PyData.hasDictAll]
  | _, d :: ds, h => by
    cases h with
    | cons h1 h2 => simp only [PyData.hasDictAll, dp_noDict h1, dpAll_noDict h2, Bool.or_self]
end
theorem len_toL (acc : Array Value) : acc.toList.length = acc.size := by simp
section
variable {X : Cx}
/-- repr(x) of data: none, bools, ints, texts, lists, tuples -/
def rRepr (K : PySem.W.Frag) : List V → Hp → VK → Prop := fun xs H Q => ∃ (x : V) (d : PyData), xs = [x] ∧ Dp K H x d ∧ d.showable = true ∧ d.shown.length ≤ sizeLine ∧ d.depth ≤ 50 ∧ Q (.str d.shown) H
theorem call_reprD {k : Nat} (hr : Room k X.A) (hG : X.A.guards = some []) : CallR X (.builtin "repr") (rRepr X.K) := by
  intro pins s σ H xs us Q I r h
  obtain ⟨x, d, rfl, hd, hs, hz, hdp, q⟩ := h
  obtain ⟨u, rfl, rx⟩ := vals1 r
  have hu := hr.units
  cases hd with
  | non => cases rx; exact P.repr_of_none ⟨.str _, H, I.tok _, ⟨_, rfl⟩, q⟩
  | bl b => cases rx; exact P.repr_of_bool ⟨.str _, H, I.tok _, ⟨_, rfl⟩, q⟩
  | int i =>
    obtain ⟨t, rfl⟩ := rx
    have hs' : i.natAbs.log2 < 1920 := by simpa [PyData.showable] using hs
    exact P.repr_of_int hs' ⟨.str _, H, I.tok _, ⟨_, rfl⟩, q⟩
  | str z =>
    obtain ⟨t, rfl⟩ := rx
    exact P.repr_of_str ⟨.str _, H, I.tok _, ⟨_, rfl⟩, q⟩ hz
  | @lst a xs ds hq ha =>
    cases rx
    obtain ⟨as, hR⟩ := Dp.reads I (.list ds) (.ref a) (.ref a) (.lst hq ha) rfl
    refine repr_of_reads' hR hs (PyData.noDict_hsm (dp_noDict (K := X.K) (H := H) (.lst hq ha))) hG (by omega) (fun _ _ e => e) (fun h' t tk hk => ?_) hz
    exact ⟨.str _, H, I.kept hk, ⟨_, rfl⟩, q⟩
  | @tup a xs ds hq ha =>
    cases rx
    obtain ⟨as, hR⟩ := Dp.reads I (.tuple ds) (.ref a) (.ref a) (.tup hq ha) rfl
    refine repr_of_reads' hR hs (PyData.noDict_hsm (dp_noDict (K := X.K) (H := H) (.tup hq ha))) hG (by omega) (fun _ _ e => e) (fun h' t tk hk => ?_) hz
    exact ⟨.str _, H, I.kept hk, ⟨_, rfl⟩, q⟩
/-- list(text) -/
theorem call_listT (hc : X.calm = true) : CallR X (.type "list") (fun xs H Q => ∃ l, xs = [tx l] ∧ l.length ≤ sizeLine ∧ ∀ p, H p = none → Q (.ref p) (upd H p (.lst (l.map fun c => tx [c])))) := by
  intro pins s σ H xs us Q I r h
  obtain ⟨l, rfl, hz, q⟩ := h
  obtain ⟨u, rfl, rx⟩ := vals1 r
  obtain ⟨t, rfl⟩ := rx
  refine call_list_str (I.ok.hd hc) (tS l) t (fun h' tk acc c hk hS hacc => ?_) (by show l.toArray.size ≤ _; simpa using hz)
  have hl : acc.size = l.length := by rw [hacc.1]; simp [tS]
  have hv : Vals (l.map fun c => tx [c]) acc.toList := vals_of_at (by rw [List.length_map, len_toL, hl]) fun j x w h1 h2 => by
    obtain ⟨c, t, e1, e2⟩ := hacc.2 j w (by rw [← Array.getElem?_toList]; exact h2)
    have e3 : l[j]? = some c := by simpa [tS] using e1
    rw [List.getElem?_map, e3] at h1
    cases h1
    subst e2
    exact ⟨t, rfl⟩
  exact ⟨.ref s.heap.objs.size, upd H s.heap.objs.size (.lst (l.map fun c => tx [c])), I.laid (t' := tk) hk (Nat.le_refl _)
    (show ObjOk X.prog X.w _ _ _ (.lst (l.map fun c => tx [c])) from ⟨by rw [List.length_map]; exact hz, acc.toList, c, hv, by rw [Array.toArray_toList]; exact hS⟩), rfl, q _ (I.hok.fresh (Nat.le_refl _))⟩
def tListVals (te : TE) : TE := fun σ H Q => te σ H fun x H1 => ∃ (d : Addr) (kvs : List (Key × V)), x = .ref d ∧ H1 d = some (.dK kvs) ∧ ∀ p, H1 p = none → Q (.ref p) (upd H1 p (.lst (kvs.map (·.2))))
/-- list(e.values()) -/
theorem pe_listVals {e : Expr} {te : TE} {p apos cpos pos : Pos} (hc : X.calm = true) (he : PE X e te) (hg : Gl X "list") (hm : X.mg "list" = none) (hv : bootBuiltins "list" = some (.type "list")) (hbase : attributeBase e "values" X.env (eval e X.env) = eval e X.env := by rfl) (hline : (apos.endLine == cpos.line) = true := by rfl)
    (hs : starEach [.Call (.Attribute e "values" apos) [] [] cpos] X.env = (false, eval (.Call (.Attribute e "values" apos) [] [] cpos) X.env) :: starEach [] X.env := by rfl) :
    PE X (.Call (.Name "list" p) [.Call (.Attribute e "values" apos) [] [] cpos] [] pos) (tListVals te) := by
  refine ⟨fun pins s σ H Q I hq => ?_⟩
  refine wpAny_Call_Name_kw (ld_blt I hg hm hv ?_)
  refine PyProof.Rows.callWith_type1 ?_ hs rfl
  rw [hs]
  show wpAny _ _ (spliced ((false, eval (.Call (.Attribute e "values" apos) [] [] cpos) X.env) :: backTo pos (starEach [] X.env))) _ _ s
  refine Calls.spliced_cons ?_
  refine wpAny_Call_method (T := "dict") (id := "dict.values") hbase rfl hline F.plainAttrs_dict F.slot_dict_values F.type_dict_values (thn (he.run pins s σ H _ I hq) fun u s1 ⟨x, H1, I1, rx, d, kvs, ex, hd, q⟩ => ?_)
  subst ex
  obtain rfl : u = Value.ref d := rx
  obtain ⟨hz, hs0, vs, kv, hdo⟩ := I1.hok d _ hd
  obtain ⟨ep, hat⟩ := hdo.dictAt
  have lk : kvs.length = vs.length := Paired.length kv
  have I2 : Inv X pins σ H1 { s1 with heap := s1.heap.push { cls := .type "dict_values", data := .fields #[.ref d] } } := I1.kept (t' := s1.toks) fun b ob q => Heap.get?_push_of_some _ q
  refine ⟨hdo.typeIs, hdo.mapOf.noDict, ?_⟩
  show wpAny _ _ (callWith cpos (.builtin "dict.values") [.ref d] [] []) _ X.xe s1
  refine method_meetsIn F.slot_dict_values F.entry_dict_values rfl (PySem.evalArgs_none ⟨rfl, hdo.typeIs, F.args_dict_values_1 _, _, meets_dict_values (mixKind X.prog X.w) d hs0, ⟨vs, hdo⟩, ?_⟩)
  refine Calls.spliced_nil ?_
  refine PySem.W.kdl_call (PySem.W.kdl_values (knd := mixKind X.prog X.w) (kvs := vs) (ep := ep) (d := d)) (I1.ok.hd hc) ⟨⟨_, Heap.get?_push_size _ rfl, rfl, rfl⟩, hat.push _⟩ (by omega) fun h' tk acc c' hk hD hacc => ?_
  have hvv : Vals (kvs.map (·.2)) acc.toList := vals_of_at (by rw [List.length_map, len_toL, hacc.1, lk]) fun j x w h1 h2 => by
    obtain ⟨k, e1⟩ := hacc.2 j w (by rw [← Array.getElem?_toList]; exact h2)
    rw [List.getElem?_map] at h1
    cases e3 : kvs[j]? with
    | none => rw [e3] at h1; cases h1
    | some kx =>
      rw [e3] at h1
      cases h1
      obtain ⟨qv, g1, g2, g3⟩ := LiI.paired_get kv e3
      rw [e1] at g1
      cases g1
      exact g3
  exact ⟨.ref _, upd H1 _ (.lst (kvs.map (·.2))), I2.laid (t' := tk) hk (Nat.le_refl _)
    (show ObjOk X.prog X.w _ _ _ (.lst (kvs.map (·.2))) from ⟨by rw [List.length_map]; exact hz, acc.toList, c', hvv, by rw [Array.toArray_toList]; exact hD⟩), rfl, q _ (I2.hok.fresh (Nat.le_refl _))⟩
end
end L3
/-! sorted(texts, key=f), f giving pairs of an int and a text. -/
namespace L3
open PySem PySem.Spec PyProof.Rows L2
/-- a key: an int and a text -/
abbrev KF := List Nat → Int × List Nat
def kD (kf : KF) (l : List Nat) : PyData := .tuple [.int (kf l).1, .str (tS (kf l).2)]
/-- the sorted list -/
def sortT (kf : KF) (ts : List (List Nat)) : List (List Nat) := ts.mergeSort (PySem.W.dataLe false (kD kf))
theorem sortT_perm (kf : KF) (ts : List (List Nat)) : (sortT kf ts).Perm ts := List.mergeSort_perm _ _
theorem kD_alike (kf : KF) (a b : List Nat) : PySem.W.alike (kD kf a) (kD kf b) = true := by simp [kD, PySem.W.alike, PySem.W.alikeAll]
section
variable {X : Cx} {pins : List (Addr × Obj)} {σ : L2.St} {H : Hp} {s : Shared}
/-- calls of f give the keys, nothing else is touched -/
def KCall (X : Cx) (pins : List (Addr × Obj)) (H0 : Hp) (f : Value) (kf : KF) : Prop := ∀ (s : Shared) (σ : L2.St) (H : Hp) (l : List Nat) (t : Tok), L2.Inv X pins σ H s → Same H0 H → l.length ≤ sizeLine →
  wpAny (model X.prog X.w) X.A.in1.in1 (call f [.str (tS l) t]) (fun u s' => ∃ p H', s'.os = s.os ∧ AllBare s'.gens ∧ Un (frs X.stack) [] H H' s.heap s'.heap ∧ HOk X.prog X.w H' s'.heap ∧ Same H H' ∧ u = .ref p ∧ H' p = some (.tup [.int (kf l).1, tx (kf l).2])) (fun _ _ => False) s
/-- an address above the heap: what Inv.turned asks -/
theorem above_ok {it : Addr} (I : L2.Inv X pins σ H s) (h : s.heap.objs.size ≤ it) : it ≠ X.env.locals ∧ (it ∈ X.ex ∨ X.s_0.heap.objs.size ≤ it) ∧ (∀ x c, X.env.cells.lookup x = some c → c ≠ it) ∧ (∀ p ∈ X.pn ++ pins, p.1 ≠ it) ∧ it ∉ frs X.stack := by
  refine ⟨fun e => ?_, .inr (Nat.le_trans I.sz h), fun x c hc e => ?_, fun p hp e => ?_, fun hb => ?_⟩
  · have := I.lt
    rw [← e] at this
    exact Nat.lt_irrefl _ (Nat.lt_of_lt_of_le this h)
  · obtain ⟨v, o, ho, _⟩ := I.cell x c hc
    have := Heap.lt_size ho
    rw [e] at this
    exact Nat.lt_irrefl _ (Nat.lt_of_lt_of_le this h)
  · have := Heap.lt_size (I.pin p hp).1
    rw [e] at this
    exact Nat.lt_irrefl _ (Nat.lt_of_lt_of_le this h)
  · rcases List.mem_cons.mp (I.stkSub _ hb) with e | e
    · have := I.lt
      rw [← e] at this
      exact Nat.lt_irrefl _ (Nat.lt_of_lt_of_le this h)
    · exact I.nofs h e
theorem each_strs : ∀ {ts : List (List Nat)} {vs : List Value}, Vals (ts.map tx) vs → PySem.W.EachIs (fun v l => ∃ t, v = Value.str (tS l) t) vs ts
  | [], _, r => by cases r; exact .nil
  | _ :: _, _, r => by
    cases r with
    | cons r1 r2 => exact .cons r1 (each_strs r2)
theorem vals_each : ∀ {ts : List (List Nat)} {vs : List Value}, PySem.W.EachIs (fun v l => ∃ t, v = Value.str (tS l) t) vs ts → Vals (ts.map tx) vs
  | _, _, .nil => .nil
  | _, _, .cons h t => .cons h (vals_each t)
/-- the body of list.sort with key, at the new list a -/
theorem key_rest {f : Value} {kf : KF} {a kS : Addr} {e1 : Nat} {ts : List (List Nat)} {vs : List Value} {P : PySem.Fin → Shared → Prop} {E : Value → Shared → Prop} {k : Nat} (hr : Room k X.A) (hK : KCall X pins H f kf) (I : L2.Inv X pins σ H s) (rv : Vals (ts.map tx) vs) (hz : ts.length ≤ sizeLine) (hl : ∀ l ∈ ts, l.length ≤ sizeLine)
    (Ha : H a = none) (HkS : H kS = none) (hka : kS ≠ a)
    (ok1 : a ≠ X.env.locals ∧ (a ∈ X.ex ∨ X.s_0.heap.objs.size ≤ a) ∧ (∀ x c, X.env.cells.lookup x = some c → c ≠ a) ∧ (∀ p ∈ X.pn ++ pins, p.1 ≠ a) ∧ a ∉ frs X.stack)
    (ok2 : kS ≠ X.env.locals ∧ (kS ∈ X.ex ∨ X.s_0.heap.objs.size ≤ kS) ∧ (∀ x c, X.env.cells.lookup x = some c → c ≠ kS) ∧ (∀ p ∈ X.pn ++ pins, p.1 ≠ kS) ∧ kS ∉ frs X.stack)
    (nk : s.heap.get? kS = some (seqObj "list" #[] 0)) (na : s.heap.get? a = some (seqObj "list" #[] e1))
    (h : ∀ s' H', L2.Inv X pins σ (upd H' a (.lst ((sortT kf ts).map tx))) s' → Same H H' → H' a = none → P (.done (.ret .none)) s') :
    wpAny (model X.prog X.w) X.A.in1.in1 (ksk_rest a f false vs.toArray e1 (.ref kS)) P E s := by
  have hlen : vs.length = ts.length := by rw [← rv.length, List.length_map]
  have eS := each_strs rv
  unfold ksk_rest
  refine wpAny_bind (wpAny_rule ?_)
  rw [List.forIn_toArray]
  refine wpAny_bind (ksk_fold (fun i s' => ∃ H' kA e, L2.Inv X pins σ H' s' ∧ Same H H' ∧ H' a = none ∧ H' kS = none ∧ s'.heap.get? kS = some (seqObj "list" kA e) ∧ s'.heap.get? a = some (seqObj "list" #[] e1) ∧
      PySem.W.EachIs (fun (v : Value) (l : List Nat) => ∃ p, v = Value.ref p ∧ H' p = some (.tup [.int (kf l).1, tx (kf l).2])) kA.toList (ts.take i)) vs 0 s
    ⟨H, #[], 0, I, Same.refl H, Ha, HkS, nk, na, by rw [List.take_zero]; exact .nil⟩ ?step ?done)
  case step =>
    rintro j x s' hx ⟨H', kA, e, I', sm, ha', hk', nk', na', hk⟩
    simp only [Nat.zero_add] at hk ⊢
    have hj : j < vs.length := (List.getElem?_eq_some_iff.mp hx).1
    obtain ⟨l, hlj⟩ : ∃ l, ts[j]? = some l := ⟨_, List.getElem?_eq_getElem (by omega)⟩
    have hxt : ∃ t, x = Value.str (tS l) t := eS.zip (x, l) (List.mem_of_getElem? (i := j) (by rw [List.getElem?_zip_eq_some]; exact ⟨hx, hlj⟩))
    obtain ⟨t, rfl⟩ := hxt
    have hzA : kA.size ≤ vs.length := by
      have h1 := hk.length
      rw [Array.length_toList, List.length_take] at h1
      omega
    refine wpAny_bind (wpAny_attempt (wpAny_mono (hK s' σ H' l t I' sm (hl l (List.mem_of_getElem? hlj))) (fun v s'' he => ?_) fun _ _ hF => hF.elim))
    obtain ⟨p, H2, os2, bare2, un2, hok2, sm2, rfl, hp⟩ := he
    have I2 : L2.Inv X pins σ H2 s'' := I'.call' os2 un2 hok2 bare2 fun b z => absurd z (by simp)
    have nk2 := un2.keep kS _ nk' hk' ok2.2.2.2.2 (by simp)
    have na2 := un2.keep a _ na' ha' ok1.2.2.2.2 (by simp)
    have hk2 := un2.free kS _ nk' hk' (by simp)
    have ha2 := un2.free a _ na' ha' (by simp)
    have s1 := Heap.SameBut.update s''.heap kS (Obj.mapSeq (·.push (Value.ref p)))
    obtain ⟨c2, hc2⟩ : ∃ c2, (s''.heap.update kS (Obj.mapSeq (·.push (Value.ref p)))).get? kS = some (seqObj "list" (kA.push (Value.ref p)) c2) := ⟨_, get?_update_seq nk2 (·.push (Value.ref p))⟩
    have ek : ts.take (j + 1) = ts.take j ++ [l] := by rw [List.take_add_one, hlj]; simp
    have ea : (kA.push (Value.ref p)).toList = kA.toList ++ [Value.ref p] := by simp
    refine wpAny_bind (listUpdate_at nk2 rfl ?_ (by omega) (by rw [Array.size_push]; omega))
    refine wpAny_pure ⟨rfl, H2, kA.push (Value.ref p), c2, I2.turned (t' := s''.toks) (fun b o hb e => (s1.2 b hb).trans e) hk2 ok2.1 ok2.2.1 ok2.2.2.1 ok2.2.2.2.1, sm.trans sm2, ha2, hk2, hc2, (s1.2 a hka.symm).trans na2, ?_⟩
    rw [ea, ek]
    refine PySem.W.each_snoc ⟨p, rfl, hp⟩ (hk.mono fun v l' q => ?_)
    obtain ⟨p', e', q'⟩ := q
    exact ⟨p', e', sm2 _ _ q'⟩
  case done =>
    rintro s' ⟨H', kA, e, I', sm, ha', hk', nk', na', hk⟩
    have e3 : ts.take (0 + vs.length) = ts := List.take_of_length_le (by omega)
    rw [e3] at hk
    have hsz : kA.size = vs.length := by
      have h1 := hk.length
      rw [Array.length_toList] at h1
      omega
    have hR : PySem.W.EachIs (fun v k => ∃ as, Reads s'.heap v k as) kA.toList (ts.map (kD kf)) := by
      refine PySem.W.each_map (kD kf) (hk.mono fun v l q => ?_)
      obtain ⟨p, rfl, hp⟩ := q
      obtain ⟨_, its, r, o, ho, hc, n, hd⟩ := I'.hok p _ hp
      cases r with
      | cons r1 r2 =>
        cases r2 with
        | cons r2 r3 =>
          cases r3
          obtain ⟨t1, rfl⟩ := r1
          obtain ⟨t2, rfl⟩ := r2
          exact ⟨_, .tuple ho hc hd (.cons (.int _ _) (.cons (.str _ _) .nil))⟩
    try dsimp only
    refine wpAny_bind (listItems_at nk' rfl ?_)
    have hal : PySem.W.AllAlike (ts.map (kD kf)) := PySem.W.AllAlike.of (kD_alike kf)
    have hsk : PySem.W.Sortable (ts.map (kD kf)) := PySem.W.Sortable.tuples fun b => ⟨_, _, rfl⟩
    have hu := hr.units
    have hS := PySem.W.SortsAt.data (prog := X.prog) (w := X.w) (A := X.A.in1.in1) (s := s') hR hal hsk (fun d hd => by
      obtain ⟨l, _, rfl⟩ := List.mem_map.mp hd
      show X.A.units + 1 + 1 + (kD kf l).depth < cLine
      have : (kD kf l).depth ≤ 2 := by simp [kD, PyData.depth, PyData.depthAll]
      omega)
    refine PySem.W.keyH_end (h₁ := PySem.W.hideAll s'.heap [kS]) (fun b o _ q => PySem.W.of_hideAll _ q) (PySem.W.hideAll_none _ (by simp)) nk' na' hka hS hsz (by omega) fun h' tk c kp hD => ?_
    have ko : PySem.W.KeyedOut false (ts.map (kD kf)) vs (PySem.W.sortVals (PySem.W.dataKind s'.heap (ts.map (kD kf))) false kA.toList vs) := ⟨s'.heap, kA.toList, hal, rfl, hR⟩
    have hout := PySem.W.keyedOut_each (kD kf) ko eS
    have kp' : ∀ b o, b ≠ a → b ≠ kS → s'.heap.get? b = some o → h'.get? b = some o := fun b o h1 h2 q => kp b o h1 (PySem.W.hideAll_get _ q (by simpa using h2))
    have nt : ∀ b u, H' b = some u → b ≠ a ∧ b ≠ kS := fun b u q => ⟨ne_of_none q ha', ne_of_none q hk'⟩
    have hlen2 : (sortT kf ts).length = ts.length := (sortT_perm kf ts).length_eq
    refine h _ H' (I'.call' (ch := [kS, a]) (s' := { s' with heap := h', toks := tk }) rfl ⟨?_, ?_, ?_, ?_, ?_, ?_, ?_⟩ ?_ I'.bare ?_) sm ha'
    · intro b o q n _ hx
      simp only [List.mem_cons, List.not_mem_nil, or_false, not_or] at hx
      exact kp' b o hx.2 hx.1 q
    · intro b o q n _ hx
      simp only [List.mem_cons, List.not_mem_nil, or_false, not_or] at hx
      exact ⟨o.slots, kp' b o hx.2 hx.1 q⟩
    · intro b o q n hx
      simp only [List.mem_cons, List.not_mem_nil, or_false, not_or] at hx
      rw [upd_ne hx.2]
      exact n
    · intro b o q hx
      simp only [List.mem_cons, List.not_mem_nil, or_false, not_or] at hx
      exact ⟨o, kp' b o hx.2 hx.1 q⟩
    · intro b xs q
      rw [upd_ne (nt b _ q).1]
      exact q
    · intro b o u q
      rw [upd_ne (nt b _ q).1]
      exact q
    · intro b ps q
      refine ⟨#[], ?_⟩
      rw [upd_ne (nt b _ q).1, q]
      simp
    · intro b u q
      by_cases hb : b = a
      · subst hb
        rw [upd_same] at q
        cases q
        exact ⟨by rw [List.length_map, hlen2]; exact hz, _, c, vals_each hout, hD⟩
      · rw [upd_ne hb] at q
        refine (I'.hok b u q).stay (fun d v hd q' => ?_) (fun d q' => by rw [upd_ne (nt d _ q').1]; exact q') fun d xs q' => by rw [upd_ne (nt d _ q').1]; exact q'
        rcases hd with rfl | hd
        · exact kp' _ _ (nt _ _ q).1 (nt _ _ q).2 q'
        · exact kp' _ _ (nt _ _ hd).1 (nt _ _ hd).2 q'
    · intro b hb
      simp only [List.mem_cons, List.not_mem_nil, or_false] at hb
      rcases hb with rfl | rfl
      · exact ⟨ok2.2.1, ok2.1, ok2.2.2.1, ok2.2.2.2.1⟩
      · exact ⟨ok1.2.1, ok1.1, ok1.2.2.1, ok1.2.2.2.1⟩
/-- list.sort(a, key=f) on the new list a (not tracked), as sorted does it -/
theorem key_tree {f : Value} {kf : KF} {a : Addr} {n : Nat} {ts : List (List Nat)} {vs : List Value} {P : PySem.Fin → Shared → Prop} {E : Value → Shared → Prop} {k : Nat} (hr : Room k X.A) (hK : KCall X pins H f kf) (I : L2.Inv X pins σ H s) (rv : Vals (ts.map tx) vs) (hz : ts.length ≤ sizeLine) (hl : ∀ l ∈ ts, l.length ≤ sizeLine)
    (Ha : H a = none) (ho : s.heap.get? a = some (seqObj "list" vs.toArray n))
    (ok1 : a ≠ X.env.locals ∧ (a ∈ X.ex ∨ X.s_0.heap.objs.size ≤ a) ∧ (∀ x c, X.env.cells.lookup x = some c → c ≠ a) ∧ (∀ p ∈ X.pn ++ pins, p.1 ≠ a) ∧ a ∉ frs X.stack)
    (h : ∀ s' H', L2.Inv X pins σ (upd H' a (.lst ((sortT kf ts).map tx))) s' → Same H H' → H' a = none → P (.done (.ret .none)) s') :
    wpAny (model X.prog X.w) X.A.in1.in1 (ksk_tree a f false) P E s := by
  have hlen : vs.length = ts.length := by rw [← rv.length, List.length_map]
  have hZ : vs.length ≤ sizeLine := by omega
  have hlt : a < s.heap.objs.size := Heap.lt_size ho
  obtain ⟨e1, ho1⟩ : ∃ e1, (s.heap.update a (Obj.mapSeq fun _ => (#[] : Array Value))).get? a = some (seqObj "list" #[] e1) := ⟨_, get?_update_seq ho fun _ => #[]⟩
  have hkS : ((s.heap.update a (Obj.mapSeq fun _ => (#[] : Array Value))).push (seqObj "tuple" vs.toArray 0)).objs.size = s.heap.objs.size + 1 := by rw [size_push', Heap.size_update]
  have s1 := Heap.SameBut.update s.heap a (Obj.mapSeq fun _ => (#[] : Array Value))
  have I1 : L2.Inv X pins σ H { s with heap := s.heap.update a (Obj.mapSeq fun _ => (#[] : Array Value)) } := I.turned (t' := s.toks) (fun b o hb e => (s1.2 b hb).trans e) Ha ok1.1 ok1.2.1 ok1.2.2.1 ok1.2.2.2.1
  have I3 : L2.Inv X pins σ H { s with heap := ((s.heap.update a (Obj.mapSeq fun _ => (#[] : Array Value))).push (seqObj "tuple" vs.toArray 0)).push (seqObj "list" #[] 0) } :=
    I1.kept (t' := s.toks) fun b o e => Heap.get?_push_of_some _ (Heap.get?_push_of_some _ e)
  have up := above_ok (it := s.heap.objs.size + 1) I (Nat.le_succ _)
  unfold ksk_tree
  refine wpAny_bind (listItems_at ho rfl ?_)
  refine wpAny_bind (listUpdate_at ho rfl ?_ (by rw [List.size_toArray]; exact hZ) (Nat.zero_le _))
  refine wpAny_bind (seqEpoch_at ho1 rfl ?_)
  refine wpAny_bind (wpAny_newTuple ?_ (by show vs.length ≤ _; exact hZ))
  refine wpAny_bind (wpAny_newList ?_ (Nat.zero_le _))
  refine wpAny_holding ?_
  have nkS : (((s.heap.update a (Obj.mapSeq fun _ => (#[] : Array Value))).push (seqObj "tuple" vs.toArray 0)).push (seqObj "list" #[] 0)).get? (s.heap.objs.size + 1) = some (seqObj "list" #[] 0) := by
    rw [← hkS]; exact Heap.get?_push_size _ rfl
  show wpAny (model X.prog X.w) X.A.in1.in1 (ksk_rest a f false vs.toArray e1 (.ref ((s.heap.update a (Obj.mapSeq fun _ => (#[] : Array Value))).push (seqObj "tuple" vs.toArray 0)).objs.size)) P E { s with heap := ((s.heap.update a (Obj.mapSeq fun _ => (#[] : Array Value))).push (seqObj "tuple" vs.toArray 0)).push (seqObj "list" #[] 0) }
  rw [hkS]
  exact key_rest hr hK I3 rv hz hl Ha (I.hok.fresh (Nat.le_succ _)) (Nat.ne_of_gt (Nat.lt_succ_of_lt hlt)) ok1 up nkS (Heap.get?_push_of_some _ (Heap.get?_push_of_some _ ho1)) h
/-- sorted(l, key=f), l a list of texts -/
theorem sorted_key {f : Value} {kf : KF} {l : Addr} {ts : List (List Nat)} {Q : VK} {k : Nat} (hr : Room k X.A) (hf : ∀ x, Builtin.«list.sort» ⟨[.ref x], [(Str.ofString "key", f)]⟩ = ksk_tree x f false) (hK : KCall X pins H f kf) (I : L2.Inv X pins σ H s) (hS : SqL X.K H l (ts.map tx)) (hl : ∀ l ∈ ts, l.length ≤ sizeLine)
    (q : ∀ H' p, Same H H' → H p = none → H' p = some (.lst ((sortT kf ts).map tx)) → Q (.ref p) H') :
    wpAny (model X.prog X.w) X.A (call (.builtin "sorted") [.ref l] [(Str.ofString "key", f)]) (EP X pins σ Q) X.xe s := by
  obtain ⟨its, rv, hL, hz⟩ := I.list hS
  have hlen := rv.length
  rw [List.length_map] at hz
  refine PySem.W.sorted_of_sort hL.isList (by rw [← hlen, List.length_map]; exact hz) (PyProof.Rows.ksk_s1 _ _) (fun _ => PyProof.Rows.ksk_l1 _ _) fun E' => ?_
  rw [hf]
  have I1 : L2.Inv X pins σ H { s with heap := PySem.W.copyHeap s.heap its } := I.kept (t' := s.toks) fun b o e => PySem.W.copyHeap_old e
  have hn : H (s.heap.objs.size + 1) = none := I.hok.fresh (Nat.le_succ _)
  refine key_tree hr hK I1 rv hz hl hn (PySem.W.copyHeap_at s.heap its) (above_ok (it := s.heap.objs.size + 1) I (Nat.le_succ _)) fun s' H' I' sm ha => ⟨rfl, ?_⟩
  refine ⟨.ref _, _, I', rfl, q _ _ (fun b o e => ?_) hn upd_same⟩
  rw [upd_ne (ne_of_none e hn)]
  exact sm b o e
end
end L3
namespace L3
open PySem PySem.Spec PyProof.Rows L2
section
variable {X : Cx} {pins : List (Addr × Obj)} {σ : L2.St} {H : Hp} {s : Shared}
/-- sorted(d, key=f), d a dict whose keys are texts -/
theorem sorted_keyD {f : Value} {kf : KF} {d : Addr} {kvs : List (Key × V)} {ts : List (List Nat)} {Q : VK} {k : Nat} (hc : X.calm = true) (hr : Room k X.A) (hf : ∀ x, Builtin.«list.sort» ⟨[.ref x], [(Str.ofString "key", f)]⟩ = ksk_tree x f false) (hK : KCall X pins H f kf) (I : L2.Inv X pins σ H s)
    (hd : H d = some (.dK kvs)) (hks : kvs.map (·.1) = ts.map fun l => Sum.inr (tS l)) (hl : ∀ l ∈ ts, l.length ≤ sizeLine)
    (q : ∀ H' p, Same H H' → H p = none → H' p = some (.lst ((sortT kf ts).map tx)) → Q (.ref p) H') :
    wpAny (model X.prog X.w) X.A (call (.builtin "sorted") [.ref d] [(Str.ofString "key", f)]) (EP X pins σ Q) X.xe s := by
  obtain ⟨z, lo, vs, rel, dd⟩ := I.hok d _ hd
  obtain ⟨ep, hat⟩ := dd.dictAt
  have lk : kvs.length = vs.length := Paired.length rel
  have lt : kvs.length = ts.length := by
    have e := congrArg List.length hks
    rwa [List.length_map, List.length_map] at e
  have hkeys : vs.map (·.1) = ts.map fun l => Sum.inr (tS l) := (KV.keys rel).symm.trans hks
  refine call_function_entry_kw kind_sorted plain_sorted entry_sorted (PyProof.Rows.ksk_s1 _ _) ?_
  unfold Builtin.«sorted»
  refine wpAny_bind (m := checkCount "sorted" 1 1 _) (wpAny_pure ?_)
  refine wpAny_bind (PySem.W.kdu_collect (A := X.A.in1) (PySem.W.kdl_dict (knd := mixKind X.prog X.w) (kvs := vs) (ep := ep) lo) (I.ok.hd hc) hat (by omega) fun h' tk acc hk hacc => ?_)
  have hal : acc.toList.length = ts.length := by rw [len_toL, hacc.1]; omega
  have rv : Vals (ts.map tx) acc.toList := vals_of_at (by rw [List.length_map, hal]) fun j x w h1 h2 => by
    obtain ⟨kk, y, e1, e2⟩ := hacc.2 j w (by rw [← Array.getElem?_toList]; exact h2)
    have e3 : (vs.map (·.1))[j]? = some kk := by rw [List.getElem?_map, e1]; rfl
    rw [hkeys, List.getElem?_map] at e3
    rw [List.getElem?_map] at h1
    cases e4 : ts[j]? with
    | none => rw [e4] at e3; cases e3
    | some l =>
      rw [e4] at e3 h1
      cases h1
      have e5 : Sum.inr (tS l) = kk := Option.some.inj e3
      subst e5
      exact keyIs_rel (k := Sum.inr (tS l)) e2
  have I1 : L2.Inv X pins σ H { s with heap := h', toks := tk } := I.kept hk
  refine wpAny_bind (wpAny_newList ?_ (by omega))
  have hoL : (h'.push (seqObj "list" acc.toList.toArray 0)).get? h'.objs.size = some (seqObj "list" acc.toList.toArray 0) := Heap.get?_push_size _ rfl
  have I2 : L2.Inv X pins σ H { s with heap := h'.push (seqObj "list" acc.toList.toArray 0), toks := tk } := I1.kept (t' := tk) fun b o e => Heap.get?_push_of_some _ e
  have hn : H h'.objs.size = none := I1.hok.fresh (Nat.le_refl _)
  show wpAny _ _ _ _ _ { s with heap := h'.push (seqObj "list" acc.toList.toArray 0), toks := tk }
  refine wpAny_bind (wpAny_holding (wpAny_call_entry_kw slot_list_sort ⟨_, hoL, rfl⟩ entry_list_sort ?body (PyProof.Rows.ksk_l1 _ _)))
  case body =>
    show wpAny (model X.prog X.w) X.A.in1.in1 (Builtin.«list.sort» ⟨[.ref h'.objs.size], [(Str.ofString "key", f)]⟩) _ _ _
    rw [hf]
    refine key_tree hr hK I2 rv (by omega) hl hn hoL (above_ok (it := h'.objs.size) I1 (Nat.le_refl _)) fun s' H' I' sm ha => ⟨_, rfl, wpAny_pure ⟨_, rfl, ?_⟩⟩
    refine ⟨.ref _, _, I', rfl, q _ _ (fun b o e => ?_) hn upd_same⟩
    rw [upd_ne (ne_of_none e hn)]
    exact sm b o e
end
end L3
/-! sorted(.., key=def) and sorted(.., key=lambda). -/
namespace L3
open PySem PySem.Spec PyProof.Rows L2
/-- the promise of a def that gives a key -/
def spKey (kf : KF) : Sp := fun vs H Q _ => ∃ l, vs = [tx l] ∧ l.length ≤ sizeLine ∧ ∀ H' p, Same H H' → H' p = some (.tup [.int (kf l).1, tx (kf l).2]) → Q (.ref p) H'
section
variable {X : Cx}
theorem kcall_fn {k : Nat} {f : Addr} {fd : FuncData} {x : Str} {kf : KF} {pins : List (Addr × Obj)} {H0 : Hp} (F : FnOk X.prog X.w X.K X.mg X.base CX0 k f fd [x] (spKey kf)) (hr : Room (k + 2) X.A) (hb : L2.Binds X.K fd [x] []) : KCall X pins H0 (.ref f) kf := by
  intro s σ H l t I sm hl
  have hb' : BindsTo s fd ⟨[.str (tS l) t], []⟩ ([x].zip [.str (tS l) t]) := hb s [.str (tS l) t] I.kIn rfl
  refine wpAny_call (codeAny_mono (F.run X.A.in1.in1 X.stack s H ⟨[.str (tS l) t], []⟩ [.str (tS l) t] [tx l] (fun v H' => Same H H' ∧ ∃ p, v = .ref p ∧ H' p = some (.tup [.int (kf l).1, tx (kf l).2])) E0 hr.in1.in1 I.env0.in1.in1 hb' (.cons ⟨t, rfl⟩ .nil) ⟨l, rfl, hl, fun H' p s1 hp => ⟨s1, p, rfl, hp⟩⟩) fun r s' hq => ?_)
  cases r with
  | error e => exact (show False from hq).elim
  | ok fl =>
    cases fl with
    | ret u =>
      obtain ⟨v, H', os, bare, un, hok, rv, sm', p, rfl, hp⟩ := hq
      exact ⟨p, H', os, bare, un, hok, sm', rv, hp⟩
    | next => exact False.elim hq
    | brk => exact False.elim hq
    | cont => exact False.elim hq
def rSortKey (K : PySem.W.Frag) (f : Addr) (kf : KF) : List V → List V → Hp → VK → Prop := fun vs zs H Q => ∃ (a : Addr) (ts : List (List Nat)), vs = [.ref a] ∧ zs = [.ref f] ∧ SqL K H a (ts.map tx) ∧ (∀ l ∈ ts, l.length ≤ sizeLine) ∧
  ∀ H' p, Same H H' → H p = none → H' p = some (.lst ((sortT kf ts).map tx)) → Q (.ref p) H'
/-- sorted(e, key=f), f a def -/
theorem cr_sortKey {k : Nat} {f : Addr} {fd : FuncData} {x : Str} {kf : KF} (F : FnOk X.prog X.w X.K X.mg X.base CX0 k f fd [x] (spKey kf)) (hr : Room (k + 2) X.A) (hb : L2.Binds X.K fd [x] []) : CallRK X (.builtin "sorted") [Str.ofString "key"] (rSortKey X.K f kf) := by
  intro pins s σ H vs zs us ws Q I r rz h
  obtain ⟨a, ts, rfl, rfl, hS, hl, q⟩ := h
  obtain rfl := Vals.ref1 r
  obtain rfl := Vals.ref1 rz
  exact sorted_key hr (fun x => PyProof.Rows.ksk_t1 f x) (kcall_fn F hr hb) I hS hl q
end
/-! ### a lambda with parameters and nothing captured -/
section
variable {P : Program} {w : World} {K : PySem.W.Frag} {mg : Str → Option Value} {base : Heap}
theorem lam_run {k : Nat} {f c' : Addr} {q : Str} {params : Arguments} {body : Expr} {scope : Scope} {pm ctv : Value} {N ps : List Str} {A : Around} {outer : List Env} {s : Shared} {H : Hp} {us : List Value} {vs : List V} {Q : VK}
    (ho : s.heap.get? f = some (PySem.W.kla_obj "<lambda>" q params body scope [] pm c' ctv)) (hcd : s.heap.CodeRec (.ref c') q) (S : FnScope N ps scope) (hr : Room (k + 1) A) (e0 : Env0 P w K mg base A outer s H)
    (hb : bindArgs (PySem.W.kla_fn "<lambda>" q params body scope [] pm (.ref c') ctv) ⟨us, []⟩ = pure (ps.zip us)) (r : Vals vs us) (hl : vs.length = ps.length)
    (hbody : Room k (A.deeper (envOfC q scope s.heap.objs.size f (.ref c'))) → ∃ t, PE (cxOf CX0 P w K mg base N q scope f (.ref c') A outer s H E0).nox body t ∧ t (L2.start N vs) H Q) :
    codeAny (model P w) A (.call (.ref f) ⟨us, []⟩) (CR CX0 outer P w H s Q E0) s := by
  have lim : s.heap.NoLimit := e0.mod.nolimit.keeps fun b o e => (e0.bs b o e).1
  have hkind : ∀ y ∈ ps.zip us, scope.names.lookup y.1 = some .local ∨ (scope.names.lookup y.1 = some .cell ∧ ((cellsFrom (s.heap.objs.size + 1) scope.names []).lookup y.1).isSome = true) := fun ⟨n, v⟩ hy => by
    rcases S.par n (List.of_mem_zip hy).1 with z | z
    · exact .inl z
    · exact .inr ⟨z, PySem.W.cellsFrom_some _ _ _ (.inl z)⟩
  refine PySem.W.kla_callFunE hr.depth ho rfl S.co S.gen rfl hcd ?_
  rw [hb]
  refine wpAny_pure ?_
  refine wpAny_newFunctionEnv_cells S.kind hkind fun env he s1 x => ?_
  subst he
  refine ⟨lim.keeps x.toInCall.keep, ?_⟩
  obtain ⟨t, ht, hq⟩ := hbody (hr.deeper _)
  have I : L2.Inv (cxOf CX0 P w K mg base N q scope f (.ref c') A outer s H E0) [] (L2.start N vs) H s1 := inv_start S hr.hd e0 hl r x
  show codeAny _ A (.expr body (envOfC q scope s.heap.objs.size f (.ref c'))) _ s1
  refine PySem.W.kla_codeExpr (wpAny_mono (ht.nox.run [] s1 (L2.start N vs) H Q I hq) (fun v s' hs => ?_) fun e s' hs => hs)
  obtain ⟨v', H', J, rv, qq⟩ := hs
  exact ⟨v', H', J.os, J.bare, J.base, J.hok, rv, qq⟩
end
section
variable {X : Cx} {pins : List (Addr × Obj)} {σ : L2.St} {H : Hp} {s : Shared}
theorem Inv_pin {f : Addr} {o : Obj} (I : L2.Inv X pins σ H s) (hf : s.heap.get? f = some o) (hn : H f = none) (hfr : f ∉ frs X.stack) (hL : f ≠ X.env.locals) (hc : ∀ v, o.data ≠ .cell v) : L2.Inv X ((f, o) :: pins) σ H s := by
  refine ⟨I.ok, I.os, I.bare, I.base, I.loc, I.cell, I.free, I.freeC, fun p hp => ?_, I.hok, I.len⟩
  rcases List.mem_append.mp hp with hp | hp
  · exact I.pin p (List.mem_append_left _ hp)
  · rcases List.mem_cons.mp hp with rfl | hp
    · refine ⟨hf, hn, hL, fun z => hfr ?_, hc⟩
      rcases I.ok.stk with e | ⟨e, _⟩
      · rw [e]; exact z
      · rw [e]
        unfold frs
        rw [List.filterMap_cons]
        split
        · exact z
        · exact List.mem_cons_of_mem _ z
    · exact I.pin p (List.mem_append_right _ hp)
theorem Inv_unpin {p : Addr × Obj} (I : L2.Inv X (p :: pins) σ H s) : L2.Inv X pins σ H s := by
  refine ⟨I.ok, I.os, I.bare, I.base, I.loc, I.cell, I.free, I.freeC, fun q hq => ?_, I.hok, I.len⟩
  rcases List.mem_append.mp hq with hq | hq
  · exact I.pin q (List.mem_append_left _ hq)
  · exact I.pin q (List.mem_append_right _ (List.mem_cons_of_mem _ hq))
end
end L3
/-! sorted(.., key=lambda x: ..). -/
namespace L3
open PySem PySem.Spec PyProof.Rows L2
/-- what is new is none of the old -/
def Fresh (H : Hp) (p : Addr) : Prop := ∀ b o, H b = some o → (∀ ps, o ≠ .tbl ps) → b ≠ p
/-- what sorted(x, key=lambda) asks, x a dict of texts or a list of texts -/
def rSortLam (K : PySem.W.Frag) (T : List (Addr × Str)) (kf : KF) : V → Hp → VK → Prop := fun x H Q => ∃ (d : Addr) (ts : List (List Nat)), x = .ref d ∧
  ((∃ kvs : List (Key × V), H d = some (.dK kvs) ∧ kvs.map (·.1) = ts.map fun l => Sum.inr (tS l)) ∨ H d = some (.lst (ts.map tx))) ∧ (∀ l ∈ ts, l.length ≤ sizeLine) ∧ LamX.Tabs T H ∧
  ∀ H' p, LamX.ExtN H H' → LamX.Tabs T H' → Fresh H p → H' p = some (.lst ((sortT kf ts).map tx)) → Q (.ref p) H'
section
variable {X : Cx}
theorem kcall_lam {k : Nat} {f c' : Addr} {params : Arguments} {body : Expr} {scope : Scope} {q : Str} {pm ctv : Value} {N : List Str} {y : Str} {kf : KF} {tb : TE} {pins : List (Addr × Obj)} {H0 : Hp} (hr : Room (k + 3) X.A) (S : FnScope N [y] scope)
    (hf : (f, PySem.W.kla_obj "<lambda>" q params body scope [] pm c' ctv) ∈ pins) (hc : H0 c' = some (LamX.CodeO c' q))
    (hbind : ∀ u : Value, bindArgs (PySem.W.kla_fn "<lambda>" q params body scope [] pm (.ref c') ctv) ⟨[u], []⟩ = pure [(y, u)])
    (hbody : ∀ (A : Around) (outer : List Env) (s : Shared) (H : Hp) (f c' : Addr), Room k (A.deeper (envOfC q scope s.heap.objs.size f (.ref c'))) → PE (cxOf CX0 X.prog X.w X.K X.mg X.base N q scope f (.ref c') A outer s H E0).nox body tb)
    (hread : ∀ (l : List Nat) (H : Hp), l.length ≤ sizeLine → tb (L2.start N [tx l]) H fun v H' => Same H H' ∧ ∃ p, v = .ref p ∧ H' p = some (.tup [.int (kf l).1, tx (kf l).2])) : KCall X pins H0 (.ref f) kf := by
  intro s σ H l t I sm hl
  have hp := I.pin _ (List.mem_append_right X.pn hf)
  obtain ⟨⟨oc, vs, t', hoc, hdc, hvc⟩, _, _⟩ := I.hok c' _ (sm _ _ hc)
  have rc : codeAny (model X.prog X.w) X.A.in1.in1 (.call (.ref f) ⟨[.str (tS l) t], []⟩) (CR CX0 X.stack X.prog X.w H s (fun v H' => Same H H' ∧ ∃ p, v = .ref p ∧ H' p = some (.tup [.int (kf l).1, tx (kf l).2])) E0) s :=
    lam_run (vs := [tx l]) hp.1 ⟨c', oc, vs, t', rfl, hoc, hdc, hvc⟩ S hr.in1.in1 I.env0.in1.in1 (hbind _) (.cons ⟨t, rfl⟩ .nil) rfl fun hr' => ⟨tb, hbody _ _ _ _ _ _ hr', hread l H hl⟩
  refine wpAny_call (codeAny_mono rc fun r s' hq => ?_)
  cases r with
  | error e => exact (show False from hq).elim
  | ok fl =>
    cases fl with
    | ret u =>
      obtain ⟨v, H', os, bare, un, hok, rv, sm', p, rfl, hp⟩ := hq
      exact ⟨p, H', os, bare, un, hok, sm', rv, hp⟩
    | next => exact False.elim hq
    | brk => exact False.elim hq
    | cont => exact False.elim hq
/-- sorted(e, key=lambda y: body) -/
theorem pe_sortLam {T : List (Addr × Str)} {c P : Addr} {k : Nat} {e : Expr} {te tb : TE} {params : Arguments} {body : Expr} {scope : Scope} {N : List Str} {y : Str} {kf : KF} {p lpos kpos pos : Pos} (hcalm : X.calm = true) (hg : Gl X "sorted") (hm : X.mg "sorted" = none) (hv : bootBuiltins "sorted" = some (.builtin "sorted"))
    (he : PE X e te) (TB : LamX.TabB X.base X.mg c P) (hcode : X.env.code = .ref c) (hmT : (P, X.env.qual ++ "<lambda>") ∈ T) (hu : ∀ p ∈ T, p.1 = P → p.2 = X.env.qual ++ "<lambda>") (hr : Room (k + 3) X.A) (S : FnScope N [y] scope) (hdef : defaultsOf params X.env = ([], []))
    (hclo : cloFrom X.env.cells scope.names [] = []) (hfree : ∀ y ∈ scope.names, y.2 ≠ .free)
    (hbind : ∀ (q : Str) (pm cv ctv u : Value), bindArgs (PySem.W.kla_fn "<lambda>" q params body scope [] pm cv ctv) ⟨[u], []⟩ = pure [(y, u)])
    (hbody : ∀ (A : Around) (outer : List Env) (s : Shared) (H : Hp) (f c' : Addr), Room k (A.deeper (envOfC (X.env.qual ++ "<lambda>") scope s.heap.objs.size f (.ref c'))) → PE (cxOf CX0 X.prog X.w X.K X.mg X.base N (X.env.qual ++ "<lambda>") scope f (.ref c') A outer s H E0).nox body tb)
    (hread : ∀ (l : List Nat) (H : Hp), l.length ≤ sizeLine → tb (L2.start N [tx l]) H fun v H' => Same H H' ∧ ∃ p, v = .ref p ∧ H' p = some (.tup [.int (kf l).1, tx (kf l).2]))
    (hst : backTo pos (starEach [e] X.env) = (false, eval e X.env) :: backTo pos (starEach [] X.env) := by rfl) :
    PE X (.Call (.Name "sorted" p) [e] [⟨some "key", .Lambda params body scope lpos, kpos⟩] pos) (fun σ H Q => te σ H fun x H1 => rSortLam X.K T kf x H1 Q) := by
  refine ⟨fun pins s σ H Q I h => ?_⟩
  refine wpAny_Call_Name_kw (ld_blt I hg hm hv ?_)
  refine PyProof.Rows.callWith_kw ?_ hst (by rw [hst]; rfl) rfl rfl
  rw [hst]
  refine Calls.spliced_cons (thn (he.run pins s σ H _ I h) fun u s1 ⟨x, H1, I1, r1, q1⟩ => ?_)
  refine Calls.spliced_nil ?_
  show wpAny _ _ (evalAll [do let v ← eval (.Lambda params body scope lpos) X.env; standAt pos; pure v]) _ _ s1
  obtain ⟨d, ts, rfl, hd, hl, hT, q⟩ := q1
  obtain rfl : u = Value.ref d := r1
  refine wpAny_evalAll_cons (wpAny_bind (LamX.lam_make2 I1 TB hcode hmT hu hT hdef (fun y hy e => absurd e (hfree y hy)) fun f c' pm ctv H2 s2 I2 eN T2 hf hfn hfr hco => ?_))
  refine wpAny_bind (wpAny_standAt (wpAny_pure (wpAny_evalAll_nil ?_)))
  rw [hclo] at hf
  show wpAny (model X.prog X.w) X.A (call (.builtin "sorted") [.ref d] [(Str.ofString "key", .ref f)]) _ _ _
  have hL : f ≠ X.env.locals := fun e => by
    obtain ⟨m, ⟨o, es, ep, ho, hd', _⟩, _⟩ := I2.loc
    rw [← e, hf] at ho
    cases ho
    cases hd'
  have I3 := Inv_pin (s := _) (I2.tok s2.toks) hf hfn hfr hL (fun v z => nomatch z)
  have hK := kcall_lam (X := X) (pins := (f, PySem.W.kla_obj "<lambda>" (X.env.qual ++ "<lambda>") params body scope [] pm c' ctv) :: pins) (H0 := H2) hr S List.mem_cons_self hco (fun u => hbind _ _ _ _ u) hbody hread
  have fin : ∀ H' p, Same H2 H' → H2 p = none → H' p = some (.lst ((sortT kf ts).map tx)) → Q (.ref p) H' := fun H' p sm hp hl' =>
    q H' p (eN.trans (LamX.ExtN.of sm)) (T2.ext sm) (fun b o hb ho e => by rw [e] at hb; rw [eN _ _ hb ho] at hp; cases hp) hl'
  have back : ∀ v s', EP X ((f, PySem.W.kla_obj "<lambda>" (X.env.qual ++ "<lambda>") params body scope [] pm c' ctv) :: pins) σ Q v s' → EP X pins σ Q v s' := fun v s' ⟨v', H', J, rv, qq⟩ => ⟨v', H', Inv_unpin J, rv, qq⟩
  rcases hd with ⟨kvs, hd, hk⟩ | hd
  · have hd2 := eN _ _ hd (fun ps z => nomatch z)
    exact wpAny_mono (sorted_keyD hcalm hr (fun x => PyProof.Rows.ksk_t1 f x) hK I3 hd2 hk hl fin) back fun _ _ z => z
  · have hd2 := eN _ _ hd (fun ps z => nomatch z)
    exact wpAny_mono (sorted_key hr (fun x => PyProof.Rows.ksk_t1 f x) hK I3 (.inl (.inl hd2)) hl fin) back fun _ _ z => z
end
end L3
/-! The end of a law row: the law's def is run where no repr is under way; tables of code objects; the script's bits. -/
namespace L3
open PySem PySem.Spec PyProof.Rows L2
/-- the tracked heap at the law's call: the script (locked), where it is not written, and the tables -/
def H0 (K : PySem.W.Frag) (a : Addr) (vs : List Value) (ns : List Int) (cs : List (Addr × Addr)) : Hp := fun b =>
  if b = a then (if (K.lookup a).isSome then none else some (.frz { cls := .type "list", data := .seq vs.toArray } (.lst (ns.map V.int)))) else if b ∈ cs.map (·.2) then some (.tbl #[]) else none
theorem law_callG {P : Program} {w : World} {K : PySem.W.Frag} {mg mb : Str → Option Value} {k : Nat} {fa a : Addr} {cs : List (Addr × Addr)} {fd : FuncData} {x : Str} {sp : Sp} {s₁ : Shared} {vs : List Value} {ns : List Int}
    (KX : K.In s₁.heap) (hns : s₁.heap.Ns mainGlobals mg) (hb : s₁.heap.Ns builtinsNs mb) (hbb : ∀ x : Str, x ≠ "__name__" → mb x = bootBuiltins x) (hlim : s₁.heap.NoLimit) (hg : s₁.gens = #[])
    (hT : ∀ p ∈ cs, s₁.heap.get? p.2 = some { cls := .none, data := .fields #[] }) (nT : ∀ p ∈ cs, K.lookup p.2 = none) (C : ∀ p ∈ cs, PySem.W.CodeHd s₁.heap p.1 p.2)
    (hbm : ∃ (bm : Addr) (ob : Obj), mg "__builtins__" = some (.ref bm) ∧ bm ≠ builtinsNs ∧ s₁.heap.get? bm = some ob ∧ ob.cls = .type "module" ∧ ob.dict = some builtinsNs ∧ ob.data = .plain)
    (ha : s₁.heap.get? a = some { cls := .type "list", data := .seq vs.toArray }) (hi : IntsAre vs ns) (hl : ns.length ≤ sizeLine) (hr : Room k callerA)
    (F : ∀ base : Heap, K.In base → base.Ns mainGlobals mg → (∀ p ∈ cs, LamX.TabB base mg p.1 p.2) → FnOkG P w K mg base CX0 k fa fd [x] sp) (hbind : L2.Binds K fd [x] [])
    (hsp : ∀ H : Hp, (∀ p ∈ cs, H p.2 = some (.tbl #[])) → SqL K H a (ns.map V.int) → sp [.ref a] H (fun v _ => v = .bl true) fun _ _ _ => False) :
    codeAny (model P w) callerA (.call (.ref fa) ⟨[.ref a], []⟩) (fun r s' => r = .ok (.ret (.bool true)) ∧ OldK s₁.heap s'.heap ∧ s'.os = s₁.os ∧ AllBare s'.gens) s₁ := by
  have rv := vals_ints hi
  have lenV := hi.length
  have isT : ∀ b : Addr, b ∈ cs.map (·.2) → s₁.heap.get? b = some { cls := .none, data := .fields #[] } := fun b hb => by
    obtain ⟨p, hp, e⟩ := List.mem_map.mp hb
    rw [← e]; exact hT p hp
  have aT : a ∉ cs.map (·.2) := fun z => by
    have q := isT a z
    rw [ha] at q
    cases congrArg Obj.data (Option.some.inj q)
  have memT : ∀ p ∈ cs, p.2 ∈ cs.map (·.2) := fun p hp => List.mem_map.mpr ⟨p, hp, rfl⟩
  -- the three cases of H0
  have hcase : ∀ b, (b = a ∧ H0 K a vs ns cs b = none ∧ (K.lookup a).isSome = true) ∨ (b = a ∧ K.lookup a = none ∧ H0 K a vs ns cs b = some (.frz { cls := .type "list", data := .seq vs.toArray } (.lst (ns.map V.int)))) ∨
      (b ≠ a ∧ b ∈ cs.map (·.2) ∧ H0 K a vs ns cs b = some (.tbl #[])) ∨ (b ≠ a ∧ b ∉ cs.map (·.2) ∧ H0 K a vs ns cs b = none) := fun b => by
    unfold H0
    by_cases e : b = a
    · rw [if_pos e]
      cases hk : K.lookup a with
      | some o => exact .inl ⟨e, rfl, rfl⟩
      | none => exact .inr (.inl ⟨e, rfl, rfl⟩)
    · rw [if_neg e]
      by_cases e2 : b ∈ cs.map (·.2)
      · rw [if_pos e2]; exact .inr (.inr (.inl ⟨e, e2, rfl⟩))
      · rw [if_neg e2]; exact .inr (.inr (.inr ⟨e, e2, rfl⟩))
  have tabAt : ∀ p ∈ cs, H0 K a vs ns cs p.2 = some (.tbl #[]) := fun p hp => by
    rcases hcase p.2 with ⟨e, _⟩ | ⟨e, _⟩ | ⟨_, _, z⟩ | ⟨_, n, _⟩
    · exact absurd (e ▸ memT p hp) aT
    · exact absurd (e ▸ memT p hp) aT
    · exact z
    · exact absurd (memT p hp) n
  have free : ∀ {b : Addr} {o : Obj}, s₁.heap.get? b = some o → (∀ vs n, o.data ≠ .seq vs n) → o.data ≠ .fields #[] → H0 K a vs ns cs b = none := fun {b o} e h1 h2 => by
    rcases hcase b with ⟨_, z, _⟩ | ⟨e', _⟩ | ⟨_, e', _⟩ | ⟨_, _, z⟩
    · exact z
    · rw [e', ha] at e
      cases e
      exact absurd rfl (h1 _ _)
    · rw [isT b e'] at e
      cases e
      exact absurd rfl h2
    · exact z
  have nsK : ∀ {b : Addr} {m : Str → Option Value}, s₁.heap.Ns b m → (hidT s₁.heap (H0 K a vs ns cs)).Ns b m := fun {b m} ⟨o, es, ep, e, d, r⟩ =>
    ⟨o, es, ep, hidT_get e (free e (fun vs n z => by rw [d] at z; cases z) fun z => by rw [d] at z; cases z), d, r⟩
  have hKb : K.In (hidT s₁.heap (H0 K a vs ns cs)) := fun b o e => hidT_get (KX b o e) (by
    rcases hcase b with ⟨_, z, _⟩ | ⟨e', n, _⟩ | ⟨_, e', _⟩ | ⟨_, _, z⟩
    · exact z
    · rw [e', n] at e; cases e
    · obtain ⟨p, hp, ep⟩ := List.mem_map.mp e'
      rw [← ep, nT p hp] at e
      cases e
    · exact z)
  have hM : L2.Mod K mg (hidT s₁.heap (H0 K a vs ns cs)) := ⟨hKb, nsK hns, ⟨mb, nsK hb, hbb⟩, let ⟨mc, h1, h2⟩ := hlim; ⟨mc, nsK h1, h2⟩⟩
  have TB : ∀ p ∈ cs, LamX.TabB (hidT s₁.heap (H0 K a vs ns cs)) mg p.1 p.2 := fun p hp => by
    have hTp := hT p hp
    refine ⟨?_, ?_, fun z => ?_⟩
    · obtain ⟨o, us, file, tf, flags, tg, inF, text, tt, e1, r1, r2, r3, r⟩ := C p hp
      refine ⟨o, us, file, tf, flags, tg, inF, text, tt, hidT_get e1 (free e1 (fun vs n z => by rw [r2] at z; cases z) fun z => ?_), r1, r2, r3, r⟩
      rw [r2] at z
      cases z
      simp at r3
    · obtain ⟨bm, ob, b1, b2, b3, b4, b5, b6⟩ := hbm
      refine ⟨bm, ob, b1, b2, fun q => ?_, fun q => ?_, hidT_get b3 (free b3 (fun vs n z => by rw [b6] at z; cases z) fun z => by rw [b6] at z; cases z), b4, b5, b6⟩
      · obtain ⟨o, es, ep, e, hd, _⟩ := hns
        rw [q, e] at b3
        cases b3
        rw [hd] at b6
        cases b6
      · rw [q, hTp] at b3
        cases b3
        cases b6
    · obtain ⟨o, es, ep, e, hd, _⟩ := hns
      rw [z, hTp] at e
      cases e
      cases hd
  have hok : HOk P w (H0 K a vs ns cs) s₁.heap := fun b u z => by
    rcases hcase b with ⟨_, n, _⟩ | ⟨e', _, q⟩ | ⟨_, e', q⟩ | ⟨_, _, n⟩
    · rw [n] at z; cases z
    · rw [q] at z
      cases z
      rw [e']
      exact ⟨ha, by rw [List.length_map]; exact hl, vs, _, rv, ha⟩
    · rw [q] at z
      cases z
      exact isT b e'
    · rw [n] at z; cases z
  have hS : SqL K (H0 K a vs ns cs) a (ns.map V.int) := by
    rcases hcase a with ⟨_, _, hk⟩ | ⟨_, _, q⟩ | ⟨n, _⟩ | ⟨n, _⟩
    · obtain ⟨o, hk⟩ := Option.isSome_iff_exists.mp hk
      have e := KX a o hk
      rw [ha] at e
      cases e
      exact .inr ⟨_, vs.toArray, _, hk, rfl, rfl, rfl, by rw [List.size_toArray, lenV]; exact hl, by simpa using rv⟩
    · exact .inl (.inr ⟨_, q⟩)
    · exact absurd rfl n
    · exact absurd rfl n
  have e0 : Env0 P w K mg (hidT s₁.heap (H0 K a vs ns cs)) callerA [] s₁ (H0 K a vs ns cs) := ⟨rfl, hM, fun b o e => of_hidT e, Nat.le_of_eq (hidT_size _ _), trivial, fun b hb => absurd (show b ∈ ([] : List Addr) from hb) (by simp), hok, .of_eq hg⟩
  refine codeAny_mono ((F _ hKb (nsK hns) TB).run callerA [] s₁ (H0 K a vs ns cs) ⟨[.ref a], []⟩ [.ref a] [.ref a] _ _ hr rfl e0 (hbind s₁ [.ref a] KX rfl) (.cons rfl .nil) (hsp _ tabAt hS)) fun r s' h => ?_
  cases r with
  | error e => exact (show False from h).elim
  | ok fl =>
    cases fl with
    | next => exact False.elim h
    | brk => exact False.elim h
    | cont => exact False.elim h
    | ret u =>
      obtain ⟨v, H', os, bare, un, hok', r', q⟩ := h
      have q' : v = .bl true := q
      subst q'
      obtain rfl : u = Value.bool true := r'
      have key : ∀ b o, b ∉ cs.map (·.2) → s₁.heap.get? b = some o → s'.heap.get? b = some o := fun b o nb e => by
        rcases hcase b with ⟨_, n, _⟩ | ⟨_, _, z⟩ | ⟨_, e', _⟩ | ⟨_, _, n⟩
        · exact un.keep b o e n (fun z => absurd (show b ∈ ([] : List Addr) from z) (by simp)) (by simp)
        · have z2 := un.frzs b _ _ z
          obtain ⟨e1, _⟩ := hok b _ z
          obtain ⟨e2, _⟩ := hok' b _ z2
          rw [e] at e1
          cases e1
          exact e2
        · exact absurd e' nb
        · exact un.keep b o e n (fun z => absurd (show b ∈ ([] : List Addr) from z) (by simp)) (by simp)
      have grown : ∀ p ∈ cs, ∃ more : Array Value, s'.heap.get? p.2 = some { cls := .none, data := .fields more } := fun p hp => by
        obtain ⟨more, z⟩ := un.tbls p.2 #[] (tabAt p hp)
        exact ⟨_, hok' p.2 _ z⟩
      refine ⟨rfl, ⟨fun b o e => ?_, fun b o e => ?_⟩, os, bare⟩
      · by_cases hb : b ∈ cs.map (·.2)
        · obtain ⟨p, hp, ep⟩ := List.mem_map.mp hb
          obtain ⟨more, hm⟩ := grown p hp
          rw [← ep] at e ⊢
          rw [hT p hp] at e
          cases e
          exact .inr (.inl ⟨((C p hp).tab (hT p hp)).isCodeTable, rfl, #[], more, rfl, by rw [Array.empty_append]; exact hm⟩)
        · exact .inl (key b o hb e)
      · by_cases hb : b ∈ cs.map (·.2)
        · obtain ⟨p, hp, ep⟩ := List.mem_map.mp hb
          obtain ⟨more, hm⟩ := grown p hp
          rw [← ep]
          exact ⟨_, hm⟩
        · exact ⟨o, key b o hb e⟩
end L3
/-! Comprehensions by what holds of the list so far; heaps that grow. -/
namespace L3
open PySem PySem.Spec PyProof.Rows L2
theorem same_upd {H : Hp} {p : Addr} {o : HO} (h : H p = none) : Same H (upd H p o) := fun b x e => by
  rw [upd_ne (ne_of_none e h)]
  exact e
theorem same_up {H H' : Hp} {p : Addr} {o : HO} (s : Same H H') (h : H p = none) : Same H (upd H' p o) := fun b x e => by
  rw [upd_ne (ne_of_none e h)]
  exact s b x e
/-- a comprehension: R of the heap, A of the list so far -/
theorem lc_gen {J : It} {n : Nat} {G : Hp → Prop} {Y : Nat → Hp → V → Hp → Prop} (w : Walk J n G Y) {g : TG} {tt : TT} {te : TE} {vs : List Nat} {σ : L2.St} {H1 : Hp} {D : Addr} {Qd : Hp → Prop} (R : Hp → Prop) (A : Nat → List V → Prop) (hz : n ≤ sizeLine) (hA : ∀ i acc, A i acc → acc.length ≤ i)
    (h0 : A 0 []) (r0 : R (upd H1 D (.lst []))) (r1 : ∀ H x, R H → R (upd H D x)) (hG : ∀ H, R H → G H)
    (hs : ∀ i x H H' acc (C : VK) (N : Hp → Prop), i < n → R H → H D = some (.lst acc) → A i acc → Y i H x H' → (∀ v H4, R H4 → H4 D = some (.lst acc) → A (i + 1) (acc ++ [v]) → C v H4) → (∀ H3, R H3 → H3 D = some (.lst acc) → A (i + 1) acc → N H3) →
      g x (wipe σ vs) H' fun σ2 H2 => wipe σ2 vs = wipe σ vs ∧ tt σ2 H2 fun b H3 => if b = true then te σ2 H3 C else N H3)
    (hd : ∀ H xs, R H → H D = some (.lst xs) → A n xs → Qd H) :
    ∃ W : Nat → Nat → Hp → Prop, (∃ m, W 0 m (upd H1 D (.lst []))) ∧ ∀ i m H, W i m H →
      (J.stop i H ∧ Qd H) ∨ (J.go i H ∧ ∃ Nx : Hp → Prop, (∀ H', Nx H' → ∃ m', m' < m ∧ W (i + 1) m' H') ∧ ∀ x H', J.yld i H x H' → g x (wipe σ vs) H' fun σ2 H2 => wipe σ2 vs = wipe σ vs ∧ tt σ2 H2 fun b H3 =>
        if b = true then te σ2 H3 fun y H4 => ∃ acc, H4 D = some (.lst acc) ∧ acc.length < sizeLine ∧ Nx (upd H4 D (.lst (acc ++ [y]))) else Nx H3) := by
  refine lc_it w (fun i H => R H ∧ ∃ acc, H D = some (.lst acc) ∧ A i acc) ⟨r0, [], upd_same, h0⟩ (fun i H _ p => hG H p.1) (fun i x H H' hi p y => ?_) fun H p => ?_
  · obtain ⟨rH, acc, hD, ha⟩ := p
    refine hs i x H H' acc _ _ hi rH hD ha y (fun v H4 r4 d4 a4 => ⟨acc, d4, ?_, r1 _ _ r4, _, upd_same, a4⟩) (fun H3 r3 d3 a3 => ⟨r3, acc, d3, a3⟩)
    have := hA i acc ha
    omega
  · obtain ⟨rH, acc, hD, ha⟩ := p
    exact hd H acc rH hD ha
/-- no test -/
theorem yes_te {te : TE} {σ : L2.St} {H : Hp} {C : VK} {N : Hp → Prop} (h : te σ H C) : tYes σ H fun b H3 => if b = true then te σ H3 C else N H3 := by
  show (if true = true then te σ H C else N H)
  rw [if_pos rfl]
  exact h
/-- what R asks where nothing but the new list is made -/
theorem same_r0 {H1 : Hp} {D : Addr} (h : H1 D = none) : Same H1 (upd H1 D (.lst [])) := same_upd h
section
variable {X : Cx}
theorem call_lenT : CallR X (.builtin "len") (fun xs H Q => ∃ l, xs = [tx l] ∧ l.length ≤ sizeLine ∧ Q (.int (l.length : Int)) H) := by
  intro pins s σ H xs us Q I r h
  obtain ⟨l, rfl, hz, q⟩ := h
  exact call_len_str pins s σ H _ us Q I r ⟨_, rfl, by rw [tS_len]; exact hz, by rw [tS_len]; exact q⟩
theorem ix_tx : IxR X (fun x y H Q => ∃ (l : List Nat) (i c : Nat), x = tx l ∧ y = .int (i : Int) ∧ l.length ≤ sizeLine ∧ l[i]? = some c ∧ Q (tx [c]) H) := by
  intro value slice pins s σ H x y v u Q I rx ry h hs
  obtain ⟨l, i, c, rfl, rfl, hz, he, q⟩ := h
  exact ix_str value slice pins s σ H _ _ v u Q I rx ry ⟨_, _, c, rfl, rfl, by rw [tS_len]; exact hz, atI_nat he, q⟩ hs
theorem mt_findT : MtR X "str.find" (fun x xs H Q => ∃ (l : List Nat) (c k : Nat), x = tx l ∧ xs = [tx [c], .int (k : Int)] ∧ ((∀ v : Nat, k ≤ v → l[v]? ≠ some c) → Q (.int (-1)) H) ∧
    ∀ j : Nat, k ≤ j → l[j]? = some c → (∀ v : Nat, k ≤ v → v < j → l[v]? ≠ some c) → Q (.int (j : Int)) H) := by
  intro pins s σ H x xs v us Q I rx r h
  obtain ⟨l, c, k, rfl, rfl, q1, q2⟩ := h
  refine mt_find3 pins s σ H _ _ v us Q I rx r ⟨_, _, _, rfl, rfl, ?_⟩
  have hf : fromIndex (tS l).length (k : Int) = k := by
    unfold fromIndex
    rw [if_neg (by omega)]
    omega
  have hg : ∀ v, v < l.length → ((tS l).cps.getD v 0 = c ↔ l[v]? = some c) := fun v hv => by
    have e : (tS l).cps.getD v 0 = l[v] := by simp [tS, Array.getD, hv]
    rw [e, List.getElem?_eq_getElem hv]
    constructor
    · rintro rfl; rfl
    · exact fun z => Option.some.inj z
  rcases StrLaws.find3_spec (tS l) c (k : Int) with ⟨e, hn⟩ | ⟨j, e, h1, h2, h3, h4⟩
  · rw [show Txt.find3 (tS l) (tS [c]) (k : Int) = -1 from e]
    refine q1 fun v hv z => ?_
    have hlt := (List.getElem?_eq_some_iff.mp z).1
    rw [hf] at hn
    exact hn v hv (by rw [tS_len]; exact hlt) ((hg v hlt).mpr z)
  · rw [show Txt.find3 (tS l) (tS [c]) (k : Int) = (j : Int) from e]
    rw [hf] at h1 h4
    rw [tS_len] at h2
    exact q2 j h1 ((hg j h2).mp h3) fun v hv hj z => h4 v hv hj ((hg v (by omega)).mpr z)
end
theorem walk_tx {l : List Nat} : Walk (Its (tS l)) l.length (fun _ => True) (fun i H v H' => H' = H ∧ ∃ c, l[i]? = some c ∧ v = tx [c]) := by
  have e : (tS l).cps.size = l.length := tS_len l
  refine ⟨fun i _ hi _ => ?_, fun _ _ => ?_, fun i H v H' _ _ y => ?_⟩
  · show i < (tS l).cps.size
    rw [e]; exact hi
  · show (tS l).cps.size ≤ l.length
    rw [e]; exact Nat.le_refl _
  · obtain ⟨h1, c, h2, h3⟩ := y
    exact ⟨h1, c, by simpa [tS] using h2, h3⟩
/-- a def whose code object is told -/
theorem okC {P : Program} {w : World} {K : PySem.W.Frag} {mg : Str → Option Value} {base : Heap} {x qual : Str} {st : Stmt} {f : Addr} {fd : FuncData} {N ps : List Str} {k : Nat} {sp : Sp} (F : Fun K x qual st f fd) (S : FnScope N ps (defScope st)) (len : ∀ vs H Q E, sp vs H Q E → vs.length = ps.length)
    (hbody : ∀ (A : Around) (outer : List Env) (s : Shared) (H : Hp) (vs : List V) (Q : VK) (E : XK), Room k (A.deeper (envOfC qual (defScope st) s.heap.objs.size f fd.code)) → A.guards = some [] → sp vs H Q E →
      ∃ t, PSs (cxOf CX0 P w K mg base N qual (defScope st) f fd.code A outer s H E).nox (defBody st) t ∧ t { nx := fun _ H' => Q .non H', rt := Q } (L2.start N vs) H) : FnOkG P w K mg base CX0 (k + 1) f fd ps sp := by
  obtain ⟨oc, od, kV, doc, pm, an, cdv, ct, osl, rfl, lk, hcd⟩ := F.ex
  refine fn_ofG lk hcd S len fun A outer s H vs Q E hr hg hsp => ?_
  obtain ⟨t, h, q⟩ := hbody A outer s H vs Q E hr hg hsp
  exact ⟨t, h.nox, q⟩
end L3
/-! Data that is shown: texts, ints, bools in lists. Calls with keywords alone. -/
namespace L3
open PySem PySem.Spec PyProof.Rows L2
/-- what repr asks of data -/
structure Shw (d : PyData) : Prop where
  s : d.showable = true
  z : d.shown.length ≤ sizeLine
  p : d.depth ≤ 50
def dTx (ls : List (List Nat)) : List PyData := ls.map fun l => PyData.str (tS l)
theorem dp_txs {K : PySem.W.Frag} {H : Hp} : ∀ ls : List (List Nat), DpAll K H (ls.map tx) (dTx ls)
  | [] => .nil
  | l :: ls => .cons (.str _) (dp_txs ls)
theorem showAll_txs : ∀ ls : List (List Nat), PyData.showableAll (dTx ls) = true
  | [] => rfl
  | l :: ls => by
    show (PyData.showable (.str (tS l)) && PyData.showableAll (dTx ls)) = true
    rw [showAll_txs ls]
    rfl
theorem depthAll_txs : ∀ ls : List (List Nat), PyData.depthAll (dTx ls) = 0
  | [] => rfl
  | l :: ls => by
    show max (PyData.depth (.str (tS l))) (PyData.depthAll (dTx ls)) = 0
    rw [depthAll_txs ls]
    simp [PyData.depth]
theorem leavesAll_txs {B : Nat} : ∀ ls : List (List Nat), (∀ l ∈ ls, ∀ c ∈ l, c < 1114112) → PyData.leavesShortAll B (dTx ls) = true
  | [], _ => rfl
  | l :: ls, h => by
    show (PyData.leavesShort B (.str (tS l)) && PyData.leavesShortAll B (dTx ls)) = true
    rw [leavesAll_txs ls fun l' hl => h l' (List.mem_cons_of_mem _ hl), Bool.and_true]
    simp only [PyData.leavesShort, List.all_eq_true, decide_eq_true_eq]
    intro c hc
    have := h l List.mem_cons_self c (by simpa [tS] using hc)
    have e : 16 ^ 8 = 4294967296 := by decide
    omega
theorem weightAll_txs {B : Nat} : ∀ ls : List (List Nat), (∀ l ∈ ls, l.length ≤ B) → PyData.weightAll (dTx ls) ≤ (B + 1) * ls.length
  | [], _ => Nat.zero_le _
  | l :: ls, h => by
    have ih := weightAll_txs ls fun l' hl => h l' (List.mem_cons_of_mem _ hl)
    have h1 := h l List.mem_cons_self
    show PyData.weight (.str (tS l)) + 1 + PyData.weightAll (dTx ls) ≤ _
    have e : PyData.weight (.str (tS l)) = l.length := by simp [PyData.weight, tS]
    rw [e, List.length_cons, Nat.mul_succ]
    omega
theorem shw_txs {B n : Nat} {ls : List (List Nat)} (hc : ∀ l ∈ ls, ∀ c ∈ l, c < 1114112) (hl : ∀ l ∈ ls, l.length ≤ B) (hn : ls.length ≤ n) (hBn : (B + 1) * n ≤ 1048576) : Shw (.list (dTx ls)) := by
  refine ⟨?_, PyData.shown_fits (B := 8) (by decide) (by decide) ?_ ?_, ?_⟩
  · simp only [PyData.showable]; exact showAll_txs ls
  · simp only [PyData.leavesShort]; exact leavesAll_txs ls hc
  · simp only [PyData.weight]
    have h1 := weightAll_txs ls hl
    have h2 : (B + 1) * ls.length ≤ (B + 1) * n := Nat.mul_le_mul_left _ hn
    have e : (2 : Nat) ^ 20 = 1048576 := by decide
    omega
  · simp only [PyData.depth, depthAll_txs]; decide
theorem shw_bl (b : Bool) : Shw (.bool b) := ⟨by simp [PyData.showable], by cases b <;> decide +kernel, by simp [PyData.depth]⟩
theorem shw_bls (bs : List Bool) (h : bs.length ≤ 1000) : Shw (.list (bs.map PyData.bool)) := by
  have a1 : ∀ bs : List Bool, PyData.showableAll (bs.map PyData.bool) = true := fun bs => by
    induction bs with
    | nil => rfl
    | cons b bs ih => show (PyData.showable (.bool b) && _) = true; rw [ih]; rfl
  have a2 : ∀ bs : List Bool, PyData.leavesShortAll 8 (bs.map PyData.bool) = true := fun bs => by
    induction bs with
    | nil => rfl
    | cons b bs ih => show (PyData.leavesShort 8 (.bool b) && _) = true; rw [ih]; rfl
  have a3 : ∀ bs : List Bool, PyData.weightAll (bs.map PyData.bool) = bs.length := fun bs => by
    induction bs with
    | nil => rfl
    | cons b bs ih => show PyData.weight (.bool b) + 1 + PyData.weightAll (bs.map PyData.bool) = _; rw [ih]; simp [PyData.weight]; omega
  have a4 : ∀ bs : List Bool, PyData.depthAll (bs.map PyData.bool) = 0 := fun bs => by
    induction bs with
    | nil => rfl
    | cons b bs ih => show max (PyData.depth (.bool b)) _ = 0; rw [ih]; simp [PyData.depth]
  refine ⟨?_, PyData.shown_fits (B := 8) (by decide) (by decide) ?_ ?_, ?_⟩
  · simp only [PyData.showable]; exact a1 bs
  · simp only [PyData.leavesShort]; exact a2 bs
  · simp only [PyData.weight, a3]
    have e : (2 : Nat) ^ 20 = 1048576 := by decide
    omega
  · simp only [PyData.depth, a4]; decide
theorem shw_ints (ns : List Int) (h : ns.length ≤ 1000) (hn : ∀ n ∈ ns, n.natAbs < 1000000000) : Shw (.list (ns.map PyData.int)) := by
  have hlog : ∀ n : Int, n.natAbs < 1000000000 → n.natAbs.log2 < 30 := fun n h => by
    by_cases e : n.natAbs = 0
    · rw [e]; decide
    · exact (Nat.log2_lt e).mpr (Nat.lt_trans h (by decide))
  have hlen : ∀ n : Int, n.natAbs < 1000000000 → (PyData.shown (.int n)).length ≤ 10 := fun n h => by
    have e := int_text_length_le10 (a := n) (k := 9) (by decide) h
    simp only [PyData.shown]
    rw [PySem.ofString_length]
    omega
  have a1 : ∀ ns : List Int, (∀ n ∈ ns, n.natAbs < 1000000000) → PyData.showableAll (ns.map PyData.int) = true := fun ns => by
    induction ns with
    | nil => intro _; rfl
    | cons b bs ih =>
      intro h
      show (PyData.showable (.int b) && _) = true
      rw [ih fun n hn => h n (List.mem_cons_of_mem _ hn), Bool.and_true]
      simp only [PyData.showable, decide_eq_true_eq]
      have := hlog b (h b List.mem_cons_self)
      omega
  have a2 : ∀ ns : List Int, (∀ n ∈ ns, n.natAbs < 1000000000) → PyData.leavesShortAll 10 (ns.map PyData.int) = true := fun ns => by
    induction ns with
    | nil => intro _; rfl
    | cons b bs ih =>
      intro h
      show (PyData.leavesShort 10 (.int b) && _) = true
      rw [ih fun n hn => h n (List.mem_cons_of_mem _ hn), Bool.and_true]
      simp only [PyData.leavesShort, decide_eq_true_eq]
      exact hlen b (h b List.mem_cons_self)
  have a3 : ∀ ns : List Int, (∀ n ∈ ns, n.natAbs < 1000000000) → PyData.weightAll (ns.map PyData.int) ≤ 32 * ns.length := fun ns => by
    induction ns with
    | nil => intro _; exact Nat.zero_le _
    | cons b bs ih =>
      intro h
      have i1 := ih fun n hn => h n (List.mem_cons_of_mem _ hn)
      have i2 := hlog b (h b List.mem_cons_self)
      show PyData.weight (.int b) + 1 + PyData.weightAll (bs.map PyData.int) ≤ _
      have e : PyData.weight (.int b) ≤ 30 := by
        simp only [PyData.weight]
        split <;> omega
      rw [List.length_cons]
      omega
  have a4 : ∀ ns : List Int, PyData.depthAll (ns.map PyData.int) = 0 := fun ns => by
    induction ns with
    | nil => rfl
    | cons b bs ih => show max (PyData.depth (.int b)) _ = 0; rw [ih]; simp [PyData.depth]
  refine ⟨?_, PyData.shown_fits (B := 10) (by decide) (by decide) ?_ ?_, ?_⟩
  · simp only [PyData.showable]; exact a1 ns hn
  · simp only [PyData.leavesShort]; exact a2 ns hn
  · simp only [PyData.weight]
    have h1 := a3 ns hn
    have e : (2 : Nat) ^ 20 = 1048576 := by decide
    omega
  · simp only [PyData.depth, a4]; decide
theorem dp_bls {K : PySem.W.Frag} {H : Hp} : ∀ bs : List Bool, DpAll K H (bs.map V.bl) (bs.map PyData.bool)
  | [] => .nil
  | b :: bs => .cons (.bl b) (dp_bls bs)
theorem dp_ints {K : PySem.W.Frag} {H : Hp} : ∀ ns : List Int, DpAll K H (ns.map V.int) (ns.map PyData.int)
  | [] => .nil
  | b :: bs => .cons (.int b) (dp_ints bs)
/-! ### calls with keywords alone -/
def k1 {α : Type} : List α → List α → List α
  | [], [w] => [w]
  | _, _ => []
def k2 {α : Type} : List α → List α → List α
  | [], [w, v] => [v, w]
  | _, _ => []
theorem k1_rel : ∀ {vs : List V} {us : List Value} {zs : List V} {ws : List Value}, Vals vs us → Vals zs ws → Vals (k1 vs zs) (k1 us ws)
  | _, _, _, _, .nil, .nil => .nil
  | _, _, _, _, .nil, .cons r .nil => .cons r .nil
  | _, _, _, _, .nil, .cons _ (.cons _ _) => .nil
  | _, _, _, _, .cons _ _, .nil => .nil
  | _, _, _, _, .cons _ _, .cons _ _ => .nil
theorem k2_rel : ∀ {vs : List V} {us : List Value} {zs : List V} {ws : List Value}, Vals vs us → Vals zs ws → Vals (k2 vs zs) (k2 us ws)
  | _, _, _, _, .nil, .nil => .nil
  | _, _, _, _, .nil, .cons _ .nil => .nil
  | _, _, _, _, .nil, .cons r (.cons s .nil) => .cons s (.cons r .nil)
  | _, _, _, _, .nil, .cons _ (.cons _ (.cons _ _)) => .nil
  | _, _, _, _, .cons _ _, .nil => .nil
  | _, _, _, _, .cons _ _, .cons _ _ => .nil
/-- f(n = v) -/
theorem kb1 {K : PySem.W.Frag} {x n : Str} {st : Stmt} {f : Addr} {fd : FuncData} (F : Fun K x x st f fd)
    (h : ∀ (kV doc pm : Value) (an : Option Addr) (cdv ct w : Value), bindArgs (PySem.W.fnOf x x (defArgs st) (defBody st) (defScope st) .none kV doc pm an cdv ct) ⟨[], [(n, w)]⟩ = pure [(n, w)]) : KBinds K fd [n] [n] k1 k1 := by
  refine ⟨fun s us ws X hl => ?_, k1_rel⟩
  obtain ⟨oc, od, kV, doc, pm, an, cdv, ct, osl, rfl, lk, hcd⟩ := F.ex
  match us, ws, hl with
  | [], [w], _ => exact .of_eq (h kV doc pm an cdv ct w)
/-- f(m = v, n = w), the other way round -/
theorem kb2 {K : PySem.W.Frag} {x n m : Str} {st : Stmt} {f : Addr} {fd : FuncData} (F : Fun K x x st f fd)
    (h : ∀ (kV doc pm : Value) (an : Option Addr) (cdv ct w v : Value), bindArgs (PySem.W.fnOf x x (defArgs st) (defBody st) (defScope st) .none kV doc pm an cdv ct) ⟨[], [(m, w), (n, v)]⟩ = pure [(n, v), (m, w)]) : KBinds K fd [n, m] [m, n] k2 k2 := by
  refine ⟨fun s us ws X hl => ?_, k2_rel⟩
  obtain ⟨oc, od, kV, doc, pm, an, cdv, ct, osl, rfl, lk, hcd⟩ := F.ex
  match us, ws, hl with
  | [], [w, v], _ => exact .of_eq (h kV doc pm an cdv ct w v)
end L3
/-! Parts of texts: all parts, how many there are, whether one is a part. Plain lists of codes. -/
namespace M11
/-! ### all parts, in the sequence of the dict -/
def ins (ks : List (List Nat)) (k : List Nat) : List (List Nat) := if k ∈ ks then ks else ks ++ [k]
def stepP (ks : List (List Nat)) (c : Nat) : List (List Nat) := ks.foldl (fun acc p => ins acc (p ++ [c])) ks
def subs (t : List Nat) : List (List Nat) := t.foldl stepP [[]]
theorem mem_ins {ks : List (List Nat)} {k x : List Nat} : x ∈ ins ks k ↔ x ∈ ks ∨ x = k := by
  unfold ins
  split
  · rename_i h
    constructor
    · exact .inl
    · rintro (h1 | rfl)
      · exact h1
      · exact h
  · simp
theorem nodup_ins {ks : List (List Nat)} {k : List Nat} (h : ks.Nodup) : (ins ks k).Nodup := by
  unfold ins
  split
  · exact h
  · rename_i hk
    rw [List.nodup_append]
    exact ⟨h, by simp, fun a ha b hb e => by
      simp at hb
      subst hb
      subst e
      exact hk ha⟩
theorem foldIns_mem (c : Nat) (x : List Nat) : ∀ (l acc : List (List Nat)), x ∈ l.foldl (fun acc p => ins acc (p ++ [c])) acc ↔ x ∈ acc ∨ ∃ p ∈ l, x = p ++ [c]
  | [], acc => by simp
  | p :: l, acc => by
    rw [List.foldl_cons, foldIns_mem c x l, mem_ins]
    simp only [List.mem_cons, exists_eq_or_imp]
    constructor
    · rintro ((h | h) | h)
      · exact .inl h
      · exact .inr (.inl h)
      · exact .inr (.inr h)
    · rintro (h | h | h)
      · exact .inl (.inl h)
      · exact .inl (.inr h)
      · exact .inr h
theorem foldIns_nodup (c : Nat) : ∀ (l acc : List (List Nat)), acc.Nodup → (l.foldl (fun acc p => ins acc (p ++ [c])) acc).Nodup
  | [], _, h => h
  | p :: l, acc, h => by
    rw [List.foldl_cons]
    exact foldIns_nodup c l _ (nodup_ins h)
theorem subs_snoc (t : List Nat) (c : Nat) : subs (t ++ [c]) = stepP (subs t) c := by
  unfold subs
  rw [List.foldl_append]
  rfl
/-- induction from behind -/
theorem snoc_ind {P : List Nat → Prop} (h0 : P []) (h1 : ∀ t c, P t → P (t ++ [c])) (t : List Nat) : P t := by
  rw [← List.reverse_reverse t]
  induction t.reverse with
  | nil => exact h0
  | cons a l ih =>
    rw [List.reverse_cons]
    exact h1 _ _ ih
theorem sub_snoc {x t : List Nat} {c : Nat} : x.Sublist (t ++ [c]) ↔ x.Sublist t ∨ ∃ p, p.Sublist t ∧ x = p ++ [c] := by
  constructor
  · intro h
    have h2 := h.reverse
    rw [List.reverse_append] at h2
    simp only [List.reverse_cons, List.reverse_nil, List.nil_append, List.singleton_append] at h2
    cases hx : x.reverse with
    | nil =>
      have : x = [] := by simpa using hx
      subst this
      exact .inl (List.nil_sublist _)
    | cons a l =>
      rw [hx] at h2
      cases h2 with
      | cons _ h3 =>
        rw [← hx] at h3
        have := h3.reverse
        simp at this
        exact .inl this
      | cons_cons _ h3 =>
        refine .inr ⟨l.reverse, ?_, ?_⟩
        · have := h3.reverse
          simpa using this
        · have := congrArg List.reverse hx
          simpa using this
  · rintro (h | ⟨p, h, rfl⟩)
    · exact h.trans (List.sublist_append_left _ _)
    · exact h.append (List.Sublist.refl _)
theorem mem_subs (t : List Nat) : ∀ x, x ∈ subs t ↔ x.Sublist t := by
  induction t using snoc_ind with
  | h0 => intro x; simp [subs]
  | h1 t c ih =>
    intro x
    rw [subs_snoc, stepP, foldIns_mem, sub_snoc, ih]
    constructor
    · rintro (h | ⟨p, hp, e⟩)
      · exact .inl h
      · exact .inr ⟨p, (ih p).mp hp, e⟩
    · rintro (h | ⟨p, hp, e⟩)
      · exact .inl h
      · exact .inr ⟨p, (ih p).mpr hp, e⟩
theorem nodup_subs (t : List Nat) : (subs t).Nodup := by
  induction t using snoc_ind with
  | h0 => simp [subs]
  | h1 t c ih =>
    rw [subs_snoc]
    exact foldIns_nodup c _ _ ih
theorem len_le {α : Type} [DecidableEq α] : ∀ {a b : List α}, a.Nodup → (∀ x, x ∈ a → x ∈ b) → a.length ≤ b.length
  | [], _, _, _ => Nat.zero_le _
  | x :: a, b, ha, h => by
    have hn := List.nodup_cons.mp ha
    have hx : x ∈ b := h x List.mem_cons_self
    have ih := len_le (b := b.erase x) hn.2 fun y hy => (List.mem_erase_of_ne (fun (e : y = x) => hn.1 (by rw [← e]; exact hy))).mpr (h y (List.mem_cons_of_mem _ hy))
    rw [List.length_erase_of_mem hx] at ih
    have := List.length_pos_of_mem hx
    rw [List.length_cons]
    omega
/-- lists without doubles and with the same members are as long -/
theorem len_of_mem {α : Type} [DecidableEq α] {a b : List α} (ha : a.Nodup) (hb : b.Nodup) (h : ∀ x, x ∈ a ↔ x ∈ b) : a.length = b.length :=
  Nat.le_antisymm (len_le ha fun x hx => (h x).mp hx) (len_le hb fun x hx => (h x).mpr hx)
/-! ### how many -/
/-- those that are parts also with c behind them -/
def withC (t : List Nat) (c : Nat) : Nat := ((subs t).filter fun p => decide ((p ++ [c]).Sublist t)).length
theorem ins_len (ks : List (List Nat)) (k : List Nat) : (ins ks k).length = ks.length + if k ∈ ks then 0 else 1 := by
  unfold ins
  split
  · rfl
  · simp
theorem foldIns_len (c : Nat) : ∀ (l acc : List (List Nat)), l.Nodup → (l.foldl (fun acc p => ins acc (p ++ [c])) acc).length = acc.length + (l.filter fun p => decide (¬ (p ++ [c]) ∈ acc)).length
  | [], acc, _ => by simp
  | p :: l, acc, h => by
    have hn := List.nodup_cons.mp h
    rw [List.foldl_cons, foldIns_len c l _ hn.2, ins_len, List.filter_cons]
    have e : (l.filter fun q => decide (¬ (q ++ [c]) ∈ ins acc (p ++ [c]))) = l.filter fun q => decide (¬ (q ++ [c]) ∈ acc) := by
      apply List.filter_congr
      intro q hq
      have : q ++ [c] ≠ p ++ [c] := fun e => hn.1 (List.append_cancel_right e ▸ hq)
      simp [mem_ins, this]
    rw [e]
    by_cases hp : (p ++ [c]) ∈ acc
    · simp [hp]
    · simp [hp]; omega
theorem filter_not_len {α : Type} (p : α → Bool) : ∀ l : List α, (l.filter p).length + (l.filter fun x => !p x).length = l.length
  | [] => rfl
  | x :: l => by
    have ih := filter_not_len p l
    rw [List.filter_cons, List.filter_cons]
    cases h : p x <;> simp [h] <;> omega
theorem snoc_sub_snoc {p t : List Nat} {c d : Nat} : (p ++ [d]).Sublist (t ++ [c]) ↔ (p ++ [d]).Sublist t ∨ (d = c ∧ p.Sublist t) := by
  rw [sub_snoc]
  constructor
  · rintro (h | ⟨q, hq, e⟩)
    · exact .inl h
    · have h1 := List.append_inj' e rfl
      obtain ⟨rfl, h2⟩ := h1
      simp at h2
      exact .inr ⟨h2, hq⟩
  · rintro (h | ⟨rfl, h⟩)
    · exact .inl h
    · exact .inr ⟨p, h, rfl⟩
theorem many_snoc (t : List Nat) (c : Nat) : (subs (t ++ [c])).length + withC t c = 2 * (subs t).length := by
  rw [subs_snoc, stepP, foldIns_len c _ _ (nodup_subs t)]
  have h := filter_not_len (fun p => decide ((p ++ [c]).Sublist t)) (subs t)
  have e : ((subs t).filter fun p => decide (¬ (p ++ [c]) ∈ subs t)) = (subs t).filter fun p => !decide ((p ++ [c]).Sublist t) := by
    apply List.filter_congr
    intro p _
    simp [mem_subs]
  rw [e]
  unfold withC
  omega
theorem withC_snoc (t : List Nat) (c d : Nat) : withC (t ++ [c]) d = if d = c then (subs t).length else withC t d := by
  unfold withC
  by_cases h : d = c
  · subst h
    rw [if_pos rfl]
    refine len_of_mem ((nodup_subs _).filter _) (nodup_subs t) fun x => ?_
    rw [List.mem_filter, mem_subs, mem_subs, decide_eq_true_eq, snoc_sub_snoc]
    constructor
    · rintro ⟨_, h | ⟨_, h⟩⟩
      · exact (List.sublist_append_left _ _).trans h
      · exact h
    · intro h
      exact ⟨h.trans (List.sublist_append_left _ _), .inr ⟨rfl, h⟩⟩
  · rw [if_neg h]
    refine len_of_mem ((nodup_subs _).filter _) ((nodup_subs _).filter _) fun x => ?_
    rw [List.mem_filter, List.mem_filter, mem_subs, mem_subs, decide_eq_true_eq, decide_eq_true_eq, snoc_sub_snoc]
    constructor
    · rintro ⟨_, h1 | ⟨h1, _⟩⟩
      · exact ⟨(List.sublist_append_left _ _).trans h1, h1⟩
      · exact absurd h1 h
    · rintro ⟨h1, h2⟩
      exact ⟨h1.trans (List.sublist_append_left _ _), .inl h2⟩
theorem withC_nil (c : Nat) : withC [] c = 0 := by simp [withC, subs]
/-- as many from the other end -/
theorem many_rev (t : List Nat) : (subs t.reverse).length = (subs t).length := by
  have h1 : ((subs t).map List.reverse).Nodup := by
    unfold List.Nodup
    rw [List.pairwise_map]
    exact (nodup_subs t).imp fun h e => h (by have := congrArg List.reverse e; simpa using this)
  rw [← List.length_map (as := subs t) List.reverse]
  refine len_of_mem (nodup_subs _) h1 fun x => ?_
  rw [mem_subs, List.mem_map]
  constructor
  · intro h
    refine ⟨x.reverse, (mem_subs t _).mpr ?_, List.reverse_reverse x⟩
    have := h.reverse
    simpa using this
  · rintro ⟨y, hy, rfl⟩
    exact ((mem_subs t y).mp hy).reverse
theorem subs_len_pos (t : List Nat) : 0 < (subs t).length := List.length_pos_of_mem ((mem_subs t []).mpr (List.nil_sublist _))
theorem subs_len_le (t : List Nat) : (subs t).length ≤ 2 ^ t.length := by
  induction t using snoc_ind with
  | h0 => simp [subs]
  | h1 t c ih =>
    have := many_snoc t c
    rw [List.length_append, List.length_singleton, Nat.pow_succ]
    omega
theorem many_rep (a : Nat) : ∀ n, (subs (List.replicate n a)).length = n + 1 ∧ withC (List.replicate n a) a = n
  | 0 => by simp [subs, withC]
  | n + 1 => by
    obtain ⟨h1, h2⟩ := many_rep a n
    rw [List.replicate_succ']
    have h3 := many_snoc (List.replicate n a) a
    have h4 := withC_snoc (List.replicate n a) a a
    rw [if_pos rfl] at h4
    omega
/-! ### whether one is a part -/
/-- how many letters of t have come behind w, from the place at on -/
def come (t : List Nat) (w : List Nat) (k : Nat) : Nat := w.foldl (fun k c => if t[k]? = some c then k + 1 else k) k
theorem come_le (t : List Nat) : ∀ (w : List Nat) (k : Nat), k ≤ t.length → come t w k ≤ t.length
  | [], k, h => h
  | c :: w, k, h => by
    show come t w (if t[k]? = some c then k + 1 else k) ≤ _
    split
    · rename_i e
      have := (List.getElem?_eq_some_iff.mp e).1
      exact come_le t w _ this
    · exact come_le t w _ h
theorem come_iff (t : List Nat) : ∀ (w : List Nat) (k : Nat), k ≤ t.length → (come t w k = t.length ↔ (t.drop k).Sublist w)
  | [], k, h => by
    show k = t.length ↔ _
    rw [List.sublist_nil]
    constructor
    · rintro rfl; simp
    · intro e
      have := congrArg List.length e
      rw [List.length_drop] at this
      simp at this
      omega
  | c :: w, k, h => by
    show come t w (if t[k]? = some c then k + 1 else k) = _ ↔ _
    by_cases hk : k < t.length
    · have hd : t.drop k = t[k] :: t.drop (k + 1) := List.drop_eq_getElem_cons hk
      by_cases e : t[k]? = some c
      · rw [if_pos e, come_iff t w (k + 1) hk, hd]
        have e2 : t[k] = c := by
          rw [List.getElem?_eq_getElem hk] at e
          exact Option.some.inj e
        rw [e2]
        constructor
        · exact fun h => h.cons_cons c
        · intro h
          cases h with
          | cons _ h => exact (List.sublist_cons_self _ _).trans h
          | cons_cons _ h => exact h
      · rw [if_neg e, come_iff t w k h, hd]
        constructor
        · exact fun h => h.cons c
        · intro h
          cases h with
          | cons _ h => exact h
          | cons_cons _ h => exact absurd (by rw [List.getElem?_eq_getElem hk]) e
    · have e0 : k = t.length := by omega
      have hn : t[k]? = none := List.getElem?_eq_none (by omega)
      rw [hn, if_neg (by simp), come_iff t w k h]
      have : t.drop k = [] := List.drop_of_length_le (by omega)
      rw [this]
      simp
/-! ### whether one is a part, by the first such letter from a place on -/
theorem sub_first {t r : List Nat} {c : Nat} : ∀ (n k : Nat), t[k + n]? = some c → (∀ v, k ≤ v → v < k + n → t[v]? ≠ some c) → ((c :: r).Sublist (t.drop k) ↔ r.Sublist (t.drop (k + n + 1)))
  | 0, k, h, _ => by
    have hk : k < t.length := (List.getElem?_eq_some_iff.mp h).1
    have e : t[k] = c := by
      have h2 : t[k]? = some c := h
      rw [List.getElem?_eq_getElem hk] at h2
      exact Option.some.inj h2
    rw [List.drop_eq_getElem_cons hk, e]
    exact List.cons_sublist_cons
  | n + 1, k, h, hn => by
    have hlt : k + (n + 1) < t.length := (List.getElem?_eq_some_iff.mp h).1
    have hk : k < t.length := by omega
    have e : t[k] ≠ c := fun e => hn k (Nat.le_refl _) (by omega) (by rw [List.getElem?_eq_getElem hk, e])
    have ih := sub_first (t := t) (r := r) (c := c) n (k + 1) (by rw [show k + 1 + n = k + (n + 1) by omega]; exact h) fun v h1 h2 => hn v (by omega) (by omega)
    rw [show k + (n + 1) + 1 = k + 1 + n + 1 by omega, ← ih, List.drop_eq_getElem_cons hk]
    constructor
    · intro z
      cases z with
      | cons _ z => exact z
      | cons_cons _ z => exact absurd rfl e
    · exact fun z => z.cons _
theorem sub_none {t r : List Nat} {c k : Nat} (h : ∀ v, k ≤ v → t[v]? ≠ some c) : ¬ (c :: r).Sublist (t.drop k) := fun z => by
  have hm : c ∈ t.drop k := z.subset List.mem_cons_self
  obtain ⟨i, hi⟩ := List.getElem?_of_mem hm
  rw [List.getElem?_drop] at hi
  exact h (k + i) (by omega) hi
/-! ### numbers by letters -/
def putN (kk : List (Nat × Int)) (c : Nat) (v : Int) : List (Nat × Int) := if c ∈ kk.map (·.1) then kk.map (fun p => if p.1 = c then (p.1, v) else p) else kk ++ [(c, v)]
def lookN : List (Nat × Int) → Nat → Int
  | [], _ => 0
  | p :: r, c => if p.1 = c then p.2 else lookN r c
def sumN (kk : List (Nat × Int)) : Int := (kk.map (·.2)).sum
theorem keys_put (kk : List (Nat × Int)) (c : Nat) (v : Int) : (putN kk c v).map (·.1) = if c ∈ kk.map (·.1) then kk.map (·.1) else kk.map (·.1) ++ [c] := by
  unfold putN
  split
  · rw [List.map_map]
    apply List.map_congr_left
    intro p _
    show (if p.1 = c then (p.1, v) else p).1 = p.1
    split <;> rfl
  · rw [List.map_append]
    rfl
theorem nodup_put {kk : List (Nat × Int)} (h : (kk.map (·.1)).Nodup) (c : Nat) (v : Int) : ((putN kk c v).map (·.1)).Nodup := by
  rw [keys_put]
  split
  · exact h
  · rename_i hc
    rw [List.nodup_append]
    exact ⟨h, by simp, fun a ha b hb e => by
      simp at hb
      subst hb
      subst e
      exact hc ha⟩
theorem look_notin : ∀ {kk : List (Nat × Int)} {c : Nat}, c ∉ kk.map (·.1) → lookN kk c = 0
  | [], _, _ => rfl
  | p :: r, c, h => by
    simp only [List.map_cons, List.mem_cons, not_or] at h
    unfold lookN
    rw [if_neg (fun e => h.1 e.symm)]
    exact look_notin h.2
theorem map_put_notin {c : Nat} {v : Int} : ∀ {kk : List (Nat × Int)}, c ∉ kk.map (·.1) → kk.map (fun p => if p.1 = c then (p.1, v) else p) = kk
  | [], _ => rfl
  | p :: r, h => by
    simp only [List.map_cons, List.mem_cons, not_or] at h
    rw [List.map_cons, map_put_notin h.2, if_neg (fun e => h.1 e.symm)]
theorem sum_map_put {c : Nat} {v : Int} : ∀ {kk : List (Nat × Int)}, (kk.map (·.1)).Nodup → c ∈ kk.map (·.1) → sumN (kk.map (fun p => if p.1 = c then (p.1, v) else p)) = sumN kk - lookN kk c + v
  | [], _, h => by simp at h
  | p :: r, hn, h => by
    simp only [List.map_cons, List.nodup_cons] at hn
    unfold sumN lookN
    by_cases e : p.1 = c
    · rw [if_pos e, List.map_cons, map_put_notin (by rw [← e]; exact hn.1), if_pos e]
      simp only [List.map_cons, List.sum_cons]
      omega
    · have h' : c ∈ r.map (·.1) := by
        simp only [List.map_cons, List.mem_cons] at h
        rcases h with h | h
        · exact absurd h.symm e
        · exact h
      have ih := sum_map_put (v := v) hn.2 h'
      unfold sumN at ih
      rw [if_neg e, List.map_cons, if_neg e]
      simp only [List.map_cons, List.sum_cons]
      omega
theorem sum_put {kk : List (Nat × Int)} (hn : (kk.map (·.1)).Nodup) (c : Nat) (v : Int) : sumN (putN kk c v) = sumN kk - lookN kk c + v := by
  unfold putN
  split
  · rename_i h
    exact sum_map_put hn h
  · rename_i h
    rw [look_notin h]
    unfold sumN
    rw [List.map_append, List.sum_append]
    simp
theorem look_map_put {c d : Nat} {v : Int} : ∀ {kk : List (Nat × Int)}, c ∈ kk.map (·.1) → lookN (kk.map (fun p => if p.1 = c then (p.1, v) else p)) d = if d = c then v else lookN kk d
  | [], h => by simp at h
  | p :: r, h => by
    rw [List.map_cons]
    by_cases e : p.1 = c
    · rw [if_pos e]
      unfold lookN
      dsimp only
      by_cases e2 : d = c
      · rw [if_pos e2, if_pos (by rw [e, e2])]
      · rw [if_neg e2, if_neg (fun z => e2 (z.symm.trans e)), if_neg (fun z => e2 (z.symm.trans e))]
        by_cases h2 : c ∈ r.map (·.1)
        · rw [look_map_put h2, if_neg e2]
        · rw [map_put_notin h2]
    · have h' : c ∈ r.map (·.1) := by
        simp only [List.map_cons, List.mem_cons] at h
        rcases h with h | h
        · exact absurd h.symm e
        · exact h
      rw [if_neg e]
      unfold lookN
      rw [look_map_put h']
      by_cases e3 : p.1 = d
      · rw [if_pos e3, if_pos e3, if_neg (fun z => e (e3.trans z))]
      · rw [if_neg e3, if_neg e3]
theorem look_snoc {c d : Nat} {v : Int} : ∀ {kk : List (Nat × Int)}, c ∉ kk.map (·.1) → lookN (kk ++ [(c, v)]) d = if d = c then v else lookN kk d
  | [], _ => by
    show (if c = d then v else 0) = _
    by_cases e : d = c
    · rw [if_pos e, if_pos e.symm]
    · rw [if_neg e, if_neg (fun z => e z.symm)]
      rfl
  | p :: r, h => by
    simp only [List.map_cons, List.mem_cons, not_or] at h
    rw [List.cons_append]
    unfold lookN
    rw [look_snoc h.2]
    by_cases e3 : p.1 = d
    · rw [if_pos e3, if_pos e3, if_neg (fun z => h.1 (z.symm.trans e3.symm))]
    · rw [if_neg e3, if_neg e3]
theorem look_put (kk : List (Nat × Int)) (c d : Nat) (v : Int) : lookN (putN kk c v) d = if d = c then v else lookN kk d := by
  unfold putN
  split
  · rename_i h
    exact look_map_put h
  · rename_i h
    exact look_snoc h
end M11
namespace Lw
open PySem PySem.Spec PyProof.Rows L2 L3
def topS (i : Nat) : Stmt := PySem.Challenge.pw_missedparts_k11_whole_parts_of_texts.main.body.getD i (.Pass ⟨0, 0, 0, 0⟩)
abbrev s_is_text : Stmt := topS 7
abbrev s_text_key : Stmt := topS 8
abbrev s_want_few : Stmt := topS 9
abbrev s_want_texts : Stmt := topS 12
abbrev s_is_part_of : Stmt := topS 13
abbrev s_is_part : Stmt := topS 14
abbrev s_how_many_parts : Stmt := topS 15
abbrev s_parts_to : Stmt := topS 16
abbrev s_parts : Stmt := topS 17
abbrev s_law_pot : Stmt := topS 19
abbrev s_law_draw : Stmt := topS 20
abbrev s_law_pick : Stmt := topS 21
abbrev s_law_text : Stmt := topS 22
abbrev s_law_parts : Stmt := topS 23
abbrev s_law_in : Stmt := topS 24
abbrev s_law_many : Stmt := topS 25
abbrev s_law_bent : Stmt := topS 26
abbrev s_law_all_right : Stmt := topS 27
abbrev s_law_two_right : Stmt := topS 28
abbrev s_law_long_right : Stmt := topS 29
abbrev s_law_right : Stmt := topS 30
abbrev s_law : Stmt := topS 31
theorem sc_is_text : FnScope ["value", "sign"] ["value"] (defScope s_is_text) := ⟨rfl, rfl, rfl, by decide +kernel, rfl, by decide +kernel, by decide +kernel⟩
theorem sc_text_key : FnScope ["text"] ["text"] (defScope s_text_key) := ⟨rfl, rfl, rfl, by decide +kernel, rfl, by decide +kernel, by decide +kernel⟩
theorem sc_want_few : FnScope ["what", "many", "limit"] ["what", "many", "limit"] (defScope s_want_few) := ⟨rfl, rfl, rfl, by decide +kernel, rfl, by decide +kernel, by decide +kernel⟩
theorem sc_want_texts : FnScope ["texts", "text"] ["texts"] (defScope s_want_texts) := ⟨rfl, rfl, rfl, by decide +kernel, rfl, by decide +kernel, by decide +kernel⟩
theorem sc_is_part_of : FnScope ["text", "whole", "at", "letter"] ["text", "whole"] (defScope s_is_part_of) := ⟨rfl, rfl, rfl, by decide +kernel, rfl, by decide +kernel, by decide +kernel⟩
theorem sc_is_part : FnScope ["text", "whole"] ["text", "whole"] (defScope s_is_part) := ⟨rfl, rfl, rfl, by decide +kernel, rfl, by decide +kernel, by decide +kernel⟩
theorem sc_how_many_parts : FnScope ["text", "total", "ahead", "letter", "more"] ["text"] (defScope s_how_many_parts) := ⟨rfl, rfl, rfl, by decide +kernel, rfl, by decide +kernel, by decide +kernel⟩
theorem sc_parts_to : FnScope ["text", "number", "found", "letter", "part"] ["text", "number"] (defScope s_parts_to) := ⟨rfl, rfl, rfl, by decide +kernel, rfl, by decide +kernel, by decide +kernel⟩
theorem sc_parts : FnScope ["text"] ["text"] (defScope s_parts) := ⟨rfl, rfl, rfl, by decide +kernel, rfl, by decide +kernel, by decide +kernel⟩
theorem sc_law_pot : FnScope ["_law_script", "_law_k", "_law_cell"] ["_law_script", "_law_k"] (defScope s_law_pot) := ⟨rfl, rfl, rfl, by decide +kernel, rfl, by decide +kernel, by decide +kernel⟩
theorem sc_law_draw : FnScope ["_law_pot_here", "_law_sides", "_law_digit"] ["_law_pot_here", "_law_sides"] (defScope s_law_draw) := ⟨rfl, rfl, rfl, by decide +kernel, rfl, by decide +kernel, by decide +kernel⟩
theorem sc_law_pick : FnScope ["_law_pot_here", "_law_some"] ["_law_pot_here", "_law_some"] (defScope s_law_pick) := ⟨rfl, rfl, rfl, by decide +kernel, rfl, by decide +kernel, by decide +kernel⟩
theorem sc_law_text : FnScope ["_law_pot_here", "_law_signs", "_law_most", "_law_turn"] ["_law_pot_here", "_law_signs", "_law_most"] (defScope s_law_text) := ⟨rfl, rfl, rfl, by decide +kernel, rfl, by decide +kernel, by decide +kernel⟩
theorem sc_law_parts : FnScope ["_law_text_here", "_law_found", "_law_sign", "_law_one"] ["_law_text_here"] (defScope s_law_parts) := ⟨rfl, rfl, rfl, by decide +kernel, rfl, by decide +kernel, by decide +kernel⟩
theorem sc_law_in : FnScope ["_law_one", "_law_text_here", "_law_at", "_law_sign"] ["_law_one", "_law_text_here"] (defScope s_law_in) := ⟨rfl, rfl, rfl, by decide +kernel, rfl, by decide +kernel, by decide +kernel⟩
theorem sc_law_many : FnScope ["_law_text_here", "_law_behind", "_law_at"] ["_law_text_here"] (defScope s_law_many) := ⟨rfl, rfl, rfl, by decide +kernel, rfl, by decide +kernel, by decide +kernel⟩
theorem sc_law_bent : FnScope ["_law_pot_here", "_law_signs", "_law_text_here", "_law_at", "_law_sign"] ["_law_pot_here", "_law_signs", "_law_text_here"] (defScope s_law_bent) := ⟨rfl, rfl, rfl, by decide +kernel, rfl, by decide +kernel, by decide +kernel⟩
theorem sc_law_all_right : FnScope ["_law_text_here", "_law_due", "_law_turn", "_law_told", "_law_many_here", "_law_one"] ["_law_text_here"] (defScope s_law_all_right) := ⟨rfl, rfl, rfl, by decide +kernel, rfl, by decide +kernel, by decide +kernel⟩
theorem sc_law_two_right : FnScope ["_law_pot_here", "_law_signs", "_law_one", "_law_other", "_law_text_here", "_law_whole", "_law_due", "_law_told", "_law_near"] ["_law_pot_here", "_law_signs", "_law_one", "_law_other"] (defScope s_law_two_right) := ⟨rfl, rfl, rfl, by decide +kernel, rfl, by decide +kernel, by decide +kernel⟩
theorem sc_law_long_right : FnScope ["_law_pot_here", "_law_signs", "_law_text_here", "_law_due", "_law_less", "_law_one", "_law_one_sort"] ["_law_pot_here", "_law_signs"] (defScope s_law_long_right) := ⟨rfl, rfl, rfl, by decide +kernel, rfl, by decide +kernel, by decide +kernel⟩
theorem sc_law_right : FnScope ["_law_pot_here", "_law_signs", "_law_turn", "_law_one", "_law_other", "_law_left", "_law_six"] ["_law_pot_here"] (defScope s_law_right) := ⟨rfl, rfl, rfl, by decide +kernel, rfl, by decide +kernel, by decide +kernel⟩
theorem sc_law : FnScope ["_law_script", "_law_k"] ["_law_script"] (defScope s_law) := ⟨rfl, rfl, rfl, by decide +kernel, rfl, by decide +kernel, by decide +kernel⟩
/-- what the top has left of a def -/
structure Dn (K : PySem.W.Frag) (mg : Str → Option Value) (x : Str) (st : Stmt) (ps : List Str) (f : Addr) (fd : FuncData) : Prop where
  F : Fun K x x st f fd
  b : L2.Binds K fd ps []
  g : mg x = some (.ref f)
structure All (K : PySem.W.Frag) (mg : Str → Option Value) where
  f_is_text : Addr
  d_is_text : FuncData
  is_text : Dn K mg "is_text" s_is_text ["value"] f_is_text d_is_text
  f_text_key : Addr
  d_text_key : FuncData
  text_key : Dn K mg "text_key" s_text_key ["text"] f_text_key d_text_key
  f_want_few : Addr
  d_want_few : FuncData
  want_few : Dn K mg "want_few" s_want_few ["what", "many", "limit"] f_want_few d_want_few
  f_want_texts : Addr
  d_want_texts : FuncData
  want_texts : Dn K mg "want_texts" s_want_texts ["texts"] f_want_texts d_want_texts
  f_is_part_of : Addr
  d_is_part_of : FuncData
  is_part_of : Dn K mg "is_part_of" s_is_part_of ["text", "whole"] f_is_part_of d_is_part_of
  f_is_part : Addr
  d_is_part : FuncData
  is_part : Dn K mg "is_part" s_is_part ["text", "whole"] f_is_part d_is_part
  f_how_many_parts : Addr
  d_how_many_parts : FuncData
  how_many_parts : Dn K mg "how_many_parts" s_how_many_parts ["text"] f_how_many_parts d_how_many_parts
  f_parts_to : Addr
  d_parts_to : FuncData
  parts_to : Dn K mg "parts_to" s_parts_to ["text", "number"] f_parts_to d_parts_to
  f_parts : Addr
  d_parts : FuncData
  parts : Dn K mg "parts" s_parts ["text"] f_parts d_parts
  f_law_pot : Addr
  d_law_pot : FuncData
  law_pot : Dn K mg "_law_pot" s_law_pot ["_law_script", "_law_k"] f_law_pot d_law_pot
  f_law_draw : Addr
  d_law_draw : FuncData
  law_draw : Dn K mg "_law_draw" s_law_draw ["_law_pot_here", "_law_sides"] f_law_draw d_law_draw
  f_law_pick : Addr
  d_law_pick : FuncData
  law_pick : Dn K mg "_law_pick" s_law_pick ["_law_pot_here", "_law_some"] f_law_pick d_law_pick
  f_law_text : Addr
  d_law_text : FuncData
  law_text : Dn K mg "_law_text" s_law_text ["_law_pot_here", "_law_signs", "_law_most"] f_law_text d_law_text
  f_law_parts : Addr
  d_law_parts : FuncData
  law_parts : Dn K mg "_law_parts" s_law_parts ["_law_text_here"] f_law_parts d_law_parts
  f_law_in : Addr
  d_law_in : FuncData
  law_in : Dn K mg "_law_in" s_law_in ["_law_one", "_law_text_here"] f_law_in d_law_in
  f_law_many : Addr
  d_law_many : FuncData
  law_many : Dn K mg "_law_many" s_law_many ["_law_text_here"] f_law_many d_law_many
  f_law_bent : Addr
  d_law_bent : FuncData
  law_bent : Dn K mg "_law_bent" s_law_bent ["_law_pot_here", "_law_signs", "_law_text_here"] f_law_bent d_law_bent
  f_law_all_right : Addr
  d_law_all_right : FuncData
  law_all_right : Dn K mg "_law_all_right" s_law_all_right ["_law_text_here"] f_law_all_right d_law_all_right
  f_law_two_right : Addr
  d_law_two_right : FuncData
  law_two_right : Dn K mg "_law_two_right" s_law_two_right ["_law_pot_here", "_law_signs", "_law_one", "_law_other"] f_law_two_right d_law_two_right
  f_law_long_right : Addr
  d_law_long_right : FuncData
  law_long_right : Dn K mg "_law_long_right" s_law_long_right ["_law_pot_here", "_law_signs"] f_law_long_right d_law_long_right
  f_law_right : Addr
  d_law_right : FuncData
  law_right : Dn K mg "_law_right" s_law_right ["_law_pot_here"] f_law_right d_law_right
  f_law : Addr
  d_law : FuncData
  law : Dn K mg "law" s_law ["_law_script"] f_law d_law
  b_abs : mg "abs" = none
  b_all : mg "all" = none
  b_divmod : mg "divmod" = none
  b_int : mg "int" = none
  b_isinstance : mg "isinstance" = none
  b_len : mg "len" = none
  b_list : mg "list" = none
  b_max : mg "max" = none
  b_min : mg "min" = none
  b_range : mg "range" = none
  b_repr : mg "repr" = none
  b_sorted : mg "sorted" = none
  b_str : mg "str" = none
  b_sum : mg "sum" = none
  b_tuple : mg "tuple" = none
  c_SMALL : ∃ t, mg "SMALL" = some (.str "abcdefghijklmnopqrstuvwxyz" t)
  c_MOST_LISTED : ∃ t, mg "MOST_LISTED" = some (.int 10 t)
end Lw
namespace Lw
open PySem PySem.Spec PyProof.Rows L2 L3
/-- a text of small letters, not too long -/
def Small (l : List Nat) : Prop := (∀ c ∈ l, 97 ≤ c ∧ c ≤ 122) ∧ l.length ≤ 1000
theorem small_codes : (("abcdefghijklmnopqrstuvwxyz" : Str)).cps.toList = (List.range 26).map (· + 97) := by decide +kernel
theorem small_mem {c : Nat} (h : 97 ≤ c ∧ c ≤ 122) : c ∈ (("abcdefghijklmnopqrstuvwxyz" : Str)).cps.toList := by
  rw [small_codes]
  exact List.mem_map.mpr ⟨c - 97, List.mem_range.mpr (by omega), by omega⟩
section
variable {P : Program} {w : World} {K : PySem.W.Frag} {mg : Str → Option Value} {base : Heap}
/-! ### is_text -/
def spIsText : Sp := fun vs H Q _ => ∃ l, vs = [tx l] ∧ Small l ∧ ∀ H', Same H H' → Q (.bl true) H'
theorem ok_is_text (T : All K mg) : FnOk P w K mg base CX0 1 T.f_is_text T.d_is_text ["value"] spIsText := by
  refine T.is_text.F.ok sc_is_text (fun vs H Q E h => ?_) (fun cdv A outer s H vs Q E hr h => ?_)
  · obtain ⟨l, rfl, _⟩ := h
    rfl
  · obtain ⟨l, rfl, hl, q⟩ := h
    obtain ⟨ts, hS⟩ := T.c_SMALL
    refine ⟨_, pss_one (ps_ret (pe_and (pe_callB call_isi (by rfl) T.b_isinstance boot_isinstance (pa_cons (pv 0) (pa_cons (pe_bltn (v := .ty "str") (by rfl) T.b_str (by decide +kernel) rfl) pa_nil)))
      (pe_one (pe_callB (cr_all rfl) (by rfl) T.b_all boot_all (pa_cons (pe_lc (own := [("sign", 1)]) (g := gName 1) (tt := tYes) rfl sc_is_text.nd (pi_str (pv 0)) (blkOk_by (own := [("sign", 1)]) (N := ["value", "sign"]) (sc := defScope s_is_text) (by decide +kernel))
        (fun _ _ _ _ _ => pg_name (i := 1) sc_is_text.nd rfl (Or.inl rfl)) (fun _ _ _ _ _ => pts_nil) (fun _ _ _ _ _ => pe_cmpR op_in_sign (pv 1) (pe_glob (v := .str "abcdefghijklmnopqrstuvwxyz") rfl hS ⟨_, rfl⟩) (by rfl))) pa_nil))))), ?_⟩
    refine ⟨tx l, rfl, tx l, .ty "str", .type "str", .type "str", true, rfl, .ty _, .base (.str _), kit_ty (by decide +kernel), true, rfl, iteT ?_⟩
    refine ⟨tx l, rfl, tS l, rfl, fun D nD => ?_⟩
    have hsz : (tS l).cps.size = l.length := tS_len l
    refine lc_gen walk_str (Same H) (fun i acc => acc = List.replicate i (.bl true)) ?_ (fun i acc e => by rw [e]; simp) rfl (same_upd nD) (fun _ _ h => same_up h nD) (fun _ _ => trivial) (fun i x H2 H3 acc C N hi r hD ha y c n => ?_) (fun H2 xs r hD ha => ?_)
    · rw [hsz]
      have := hl.2
      rw [sizeLine_eq]
      omega
    · obtain ⟨rfl, ch, hc, rfl⟩ := y
      refine ⟨rfl, yes_te ?_⟩
      refine ⟨_, rfl, ch, _, rfl, rfl, ?_⟩
      have hm : ch ∈ l := by
        have e : l[i]? = some ch := by simpa [tS] using hc
        exact List.mem_of_getElem? e
      rw [decide_eq_true (small_mem (hl.1 ch hm))]
      exact c _ _ r hD (by rw [ha, List.replicate_succ'])
    · refine ⟨D, List.replicate (tS l).cps.size true, rfl, .inl (.inl ?_), ?_⟩
      · rw [hD, ha]
        simp
      · have e : (List.replicate (tS l).cps.size true).all id = true := by simp
        rw [e]
        exact q _ r
theorem small_len {l : List Nat} (h : Small l) : l.length ≤ sizeLine := by
  have := h.2
  rw [sizeLine_eq]
  omega
/-! ### want_texts -/
def spWantTexts (K : PySem.W.Frag) : Sp := fun vs H Q _ => ∃ (a : Addr) (ls : List (List Nat)), vs = [.ref a] ∧ SqL K H a (ls.map tx) ∧ (∀ l ∈ ls, Small l) ∧ ∀ H', Same H H' → Q .non H'
theorem ok_want_texts (T : All K mg) : FnOk P w K mg base CX0 2 T.f_want_texts T.d_want_texts ["texts"] (spWantTexts K) := by
  refine T.want_texts.F.ok sc_want_texts (fun vs H Q E h => ?_) (fun cdv A outer s H vs Q E hr h => ?_)
  · obtain ⟨a, ls, rfl, _⟩ := h
    rfl
  · obtain ⟨a, ls, rfl, hS, hl, q⟩ := h
    refine ⟨_, pss_one (ps_for PassesOwn.never rfl (pi_list (pv 0)) (pg_name (i := 1) sc_want_texts.nd rfl (.inl rfl))
      (pss_one (ps_if (pt_not (pt_val (pe_call (ok_is_text T) hr (by rfl) T.is_text.g T.is_text.F.kp T.is_text.b .nil pass0 (pa_cons (pv 1) pa_nil)))) (pss_one ps_never) pss_nil))), ?_⟩
    refine ⟨.ref a, rfl, a, rfl, ⟨_, hS⟩, for_list (xs := ls.map tx) (fun i σ H' => ∃ y, σ = [some (.ref a), y] ∧ Same H H') ⟨none, rfl, Same.refl H⟩ (fun i σ H' _ p => p.elim fun y p => p.2.seq hS) (fun i x σ H' hx p => ?_) (fun σ H' p => ?_)⟩
    · obtain ⟨y, rfl, sm⟩ := p
      rw [List.getElem?_map] at hx
      obtain ⟨l, hl1, rfl⟩ := Option.map_eq_some_iff.mp hx
      refine ⟨_, rfl, l, rfl, hl l (List.mem_of_getElem? hl1), fun H2 sm2 => ?_⟩
      exact ⟨true, rfl, iteF ⟨_, rfl, sm.trans sm2⟩⟩
    · obtain ⟨y, rfl, sm⟩ := p
      exact q _ sm
/-! ### is_part_of -/
theorem come_take (t w : List Nat) (i c : Nat) (h : w[i]? = some c) : M11.come t (w.take (i + 1)) 0 = if t[M11.come t (w.take i) 0]? = some c then M11.come t (w.take i) 0 + 1 else M11.come t (w.take i) 0 := by
  unfold M11.come
  rw [List.take_add_one, h, List.foldl_append]
  rfl
def spPartOf : Sp := fun vs H Q _ => ∃ t w, vs = [tx t, tx w] ∧ t.length ≤ sizeLine ∧ w.length ≤ sizeLine ∧ ∀ H', Same H H' → Q (.bl (decide (t.Sublist w))) H'
theorem ok_is_part_of (T : All K mg) : FnOk P w K mg base CX0 1 T.f_is_part_of T.d_is_part_of ["text", "whole"] spPartOf := by
  refine T.is_part_of.F.ok sc_is_part_of (fun vs H Q E h => ?_) (fun cdv A outer s H vs Q E hr h => ?_)
  · obtain ⟨t, w, rfl, _⟩ := h
    rfl
  · obtain ⟨t, w, rfl, ht, hw, q⟩ := h
    refine ⟨_, pss_cons (ps_set (i := 2) sc_is_part_of.nd rfl (.inl rfl) pe_int)
      (pss_cons (ps_for PassesOwn.never rfl (pi_str (pv 1)) (pg_name (i := 3) sc_is_part_of.nd rfl (.inl rfl))
        (pss_one (ps_if (PW.pt (pw_and (pt_cmpR op_lt (pv 2) (pe_callB call_lenT (by rfl) T.b_len PySem.boot_len (pa_cons (pv 0) pa_nil)) (nomark _)) (pw_and1 (pt_cmpR op_eq (pe_ix ix_tx (pv 0) (pv 2) (fun _ _ => rfl)) (pv 3) (nomark _)))))
          (pss_one (ps_set (i := 2) sc_is_part_of.nd rfl (.inl rfl) (pe_op op_add (pv 2) pe_int))) pss_nil)))
      (pss_one (ps_ret (pe_cmpR op_eq (pv 2) (pe_callB call_lenT (by rfl) T.b_len PySem.boot_len (pa_cons (pv 0) pa_nil)) (nomark _))))), ?_⟩
    refine ⟨tx w, rfl, tS w, rfl, for_it walk_tx (fun i σ H' => ∃ y, σ = [some (tx t), some (tx w), some (.int (M11.come t (w.take i) 0 : Nat)), y] ∧ H' = H) ⟨none, rfl, rfl⟩ (fun _ _ _ _ _ => trivial) (fun i x σ H1 H2 hi p y => ?_) (fun σ H' p => ?_)⟩
    · obtain ⟨y0, rfl, rfl⟩ := p
      obtain ⟨rfl, c, hc, rfl⟩ := y
      have hstep := come_take t w i c hc
      have hle := M11.come_le t (w.take i) 0 (Nat.zero_le _)
      refine ⟨_, rfl, _, rfl, t, rfl, ht, _, _, rfl, rfl, _, rfl, ite2 (fun e => ?_) (fun e => ?_)⟩
      · have hlt : M11.come t (w.take i) 0 < t.length := by
          have := of_decide_eq_true e
          omega
        refine ⟨_, rfl, _, rfl, t, _, t[M11.come t (w.take i) 0], rfl, rfl, ht, List.getElem?_eq_getElem hlt, _, rfl, rfl, _, rfl, ite2 (fun e2 => ?_) (fun e2 => ?_)⟩
        · have ec : t[M11.come t (w.take i) 0] = c := by
            have := tx_inj (of_decide_eq_true e2)
            simpa using this
          refine ⟨_, rfl, _, _, rfl, rfl, some (tx [c]), ?_, rfl⟩
          rw [hstep, if_pos (by rw [List.getElem?_eq_getElem hlt, ec])]
          rfl
        · refine ⟨some (tx [c]), ?_, rfl⟩
          rw [hstep, if_neg (fun z => e2 ?_)]
          · rfl
          · rw [List.getElem?_eq_getElem hlt] at z
            rw [Option.some.inj z]
            exact decide_eq_true rfl
      · refine iteF ?_
        refine ⟨some (tx [c]), ?_, rfl⟩
        have hge : t.length ≤ M11.come t (w.take i) 0 := by
          have : ¬ ((M11.come t (w.take i) 0 : Int) < (t.length : Int)) := fun z => e (decide_eq_true z)
          omega
        rw [hstep, if_neg (by rw [List.getElem?_eq_none hge]; simp)]
        rfl
    · obtain ⟨y0, rfl, rfl⟩ := p
      refine ⟨_, rfl, _, rfl, t, rfl, ht, rfl, ?_⟩
      have hiff := M11.come_iff t w 0 (Nat.zero_le _)
      rw [List.drop_zero] at hiff
      rw [List.take_of_length_le (Nat.le_refl _)]
      have e : decide (V.int (M11.come t w 0 : Nat) = V.int (t.length : Int)) = decide (t.Sublist w) := by
        by_cases z : M11.come t w 0 = t.length
        · rw [decide_eq_true (hiff.mp z), z]
          exact decide_eq_true rfl
        · rw [decide_eq_false (fun y => z (hiff.mpr y))]
          exact decide_eq_false fun y => z (by have := V.int.inj y; omega)
      rw [e]
      exact q _ (Same.refl _)
end
end Lw
namespace Lw
open PySem PySem.Spec PyProof.Rows L2 L3
/-! ### dicts of texts -/
abbrev tk (l : List Nat) : Key := Sum.inr (tS l)
theorem tk_inj {a b : List Nat} (h : tk a = tk b) : a = b := tS_inj (Sum.inr.inj h)
def kvsOf (ls : List (List Nat)) : List (Key × V) := ls.map fun l => (tk l, V.bl true)
theorem kvs_keys (ls : List (List Nat)) : (kvsOf ls).map (·.1) = ls.map fun l => Sum.inr (tS l) := by
  unfold kvsOf
  rw [List.map_map]
  rfl
theorem kvs_kV (ls : List (List Nat)) : ((kvsOf ls).map fun kv => kV kv.1) = ls.map tx := by
  unfold kvsOf
  rw [List.map_map]
  rfl
theorem kvs_put (ls : List (List Nat)) (k : List Nat) : putK (kvsOf ls) (tk k) (V.bl true) = kvsOf (M11.ins ls k) := by
  unfold putK M11.ins
  have hany : ((kvsOf ls).any fun kv => decide (kv.1 = tk k)) = decide (k ∈ ls) := by
    unfold kvsOf
    rw [List.any_map]
    by_cases h : k ∈ ls
    · rw [decide_eq_true h, List.any_eq_true]
      exact ⟨k, h, decide_eq_true rfl⟩
    · rw [decide_eq_false h, List.any_eq_false]
      exact fun x hx e => h (tk_inj (of_decide_eq_true e) ▸ hx)
  rw [hany]
  by_cases h : k ∈ ls
  · rw [if_pos (decide_eq_true h), if_pos h]
    unfold kvsOf
    rw [List.map_map]
    apply List.map_congr_left
    intro l _
    show (if tk l = tk k then (tk l, V.bl true) else (tk l, V.bl true)) = _
    split <;> rfl
  · rw [if_neg (fun e => h (of_decide_eq_true e)), if_neg h]
    unfold kvsOf
    rw [List.map_append]
    rfl
/-- the inner loop's dict behind j turns -/
def stepJ (ls : List (List Nat)) (c j : Nat) : List (List Nat) := (ls.take j).foldl (fun acc p => M11.ins acc (p ++ [c])) ls
theorem stepJ_zero (ls : List (List Nat)) (c : Nat) : stepJ ls c 0 = ls := rfl
theorem stepJ_succ {ls : List (List Nat)} {c j : Nat} {p : List Nat} (h : ls[j]? = some p) : stepJ ls c (j + 1) = M11.ins (stepJ ls c j) (p ++ [c]) := by
  unfold stepJ
  rw [List.take_add_one, h, List.foldl_append]
  rfl
theorem stepJ_all (ls : List (List Nat)) (c : Nat) : stepJ ls c ls.length = M11.stepP ls c := by
  unfold stepJ M11.stepP
  rw [List.take_of_length_le (Nat.le_refl _)]
theorem ins_len_le (ks : List (List Nat)) (k : List Nat) : (M11.ins ks k).length ≤ ks.length + 1 := by
  rw [M11.ins_len]
  split <;> omega
theorem foldIns_le (c : Nat) : ∀ (l acc : List (List Nat)), (l.foldl (fun acc p => M11.ins acc (p ++ [c])) acc).length ≤ acc.length + l.length
  | [], _ => Nat.le_refl _
  | p :: l, acc => by
    rw [List.foldl_cons]
    have h1 := foldIns_le c l (M11.ins acc (p ++ [c]))
    have h2 := ins_len_le acc (p ++ [c])
    rw [List.length_cons]
    omega
theorem stepJ_len (ls : List (List Nat)) (c j : Nat) : (stepJ ls c j).length ≤ 2 * ls.length := by
  unfold stepJ
  have h1 := foldIns_le c (ls.take j) ls
  have h2 : (ls.take j).length ≤ ls.length := by rw [List.length_take]; omega
  omega
theorem subs_take {t : List Nat} {i c : Nat} (h : t[i]? = some c) : M11.subs (t.take (i + 1)) = M11.stepP (M11.subs (t.take i)) c := by
  rw [List.take_add_one, h]
  exact M11.subs_snoc _ _
theorem subs_small {t : List Nat} (ht : t.length ≤ 10) (i : Nat) : (M11.subs (t.take i)).length ≤ 1024 := by
  have h1 := M11.subs_len_le (t.take i)
  have h2 : (t.take i).length ≤ 10 := by rw [List.length_take]; omega
  have h3 : 2 ^ (t.take i).length ≤ 2 ^ 10 := Nat.pow_le_pow_right (by decide) h2
  have h4 : 2 ^ 10 = 1024 := by decide
  omega
/-- by length, then by letters -/
def keyLen : KF := fun l => ((l.length : Int), l)
section
variable {P : Program} {w : World} {K : PySem.W.Frag} {mg : Str → Option Value} {base : Heap}
/-! ### is_part -/
def spIsPart : Sp := fun vs H Q _ => ∃ t w, vs = [tx t, tx w] ∧ Small t ∧ Small w ∧ ∀ H', Same H H' → Q (.bl (decide (t.Sublist w))) H'
theorem ok_is_part (T : All K mg) : FnOk P w K mg base CX0 3 T.f_is_part T.d_is_part ["text", "whole"] spIsPart := by
  refine T.is_part.F.ok sc_is_part (fun vs H Q E h => ?_) (fun cdv A outer s H vs Q E hr h => ?_)
  · obtain ⟨t, w, rfl, _⟩ := h
    rfl
  · obtain ⟨t, w, rfl, ht, hw, q⟩ := h
    refine ⟨_, pss_cons (ps_expr (pe_call (ok_want_texts T) hr (by rfl) T.want_texts.g T.want_texts.F.kp T.want_texts.b .nil pass0 (pa_cons (pe_lst (pa_cons (pv 0) (pa_cons (pv 1) pa_nil))) pa_nil)))
      (pss_one (ps_ret (pe_call (ok_is_part_of T) (hr.mono (by decide)) (by rfl) T.is_part_of.g T.is_part_of.F.kp T.is_part_of.b .nil pass0 (pa_cons (pv 0) (pa_cons (pv 1) pa_nil))))), ?_⟩
    refine ⟨_, rfl, _, rfl, by show 2 ≤ sizeLine; decide, fun p np => ?_⟩
    refine ⟨p, [t, w], rfl, .inl (.inl upd_same), ?_, fun H1 s1 => ?_⟩
    · intro l hl
      simp only [List.mem_cons, List.not_mem_nil, or_false] at hl
      rcases hl with rfl | rfl
      · exact ht
      · exact hw
    · refine ⟨_, rfl, _, rfl, t, w, rfl, small_len ht, small_len hw, fun H2 s2 => ?_⟩
      exact q _ (((same_upd np).trans s1).trans s2)
/-! ### want_few -/
def spWantFew : Sp := fun vs H Q _ => ∃ (x : V) (m n : Int), vs = [x, .int m, .int n] ∧ m ≤ n ∧ Q .non H
theorem ok_want_few (T : All K mg) : FnOk P w K mg base CX0 1 T.f_want_few T.d_want_few ["what", "many", "limit"] spWantFew := by
  refine T.want_few.F.ok sc_want_few (fun vs H Q E h => ?_) (fun cdv A outer s H vs Q E hr h => ?_)
  · obtain ⟨x, m, n, rfl, _⟩ := h
    rfl
  · obtain ⟨x, m, n, rfl, hmn, q⟩ := h
    refine ⟨_, pss_one (ps_if (pt_cmpR op_gt (pv 1) (pv 2) (nomark _)) (pss_one ps_never) pss_nil), ?_⟩
    refine ⟨_, rfl, _, rfl, m, n, rfl, rfl, _, rfl, ite2 (fun e => ?_) (fun e => q)⟩
    have := of_decide_eq_true e
    show False
    omega
/-! ### how_many_parts -/
def spMany : Sp := fun vs H Q _ => ∃ t, vs = [tx t] ∧ Small t ∧ ∀ H', Same H H' → Q (.int ((M11.subs t).length : Int)) H'
theorem ok_how_many (T : All K mg) : FnOk P w K mg base CX0 3 T.f_how_many_parts T.d_how_many_parts ["text"] spMany := by
  refine T.how_many_parts.F.ok sc_how_many_parts (fun vs H Q E h => ?_) (fun cdv A outer s H vs Q E hr h => ?_)
  · obtain ⟨t, rfl, _⟩ := h
    rfl
  · obtain ⟨t, rfl, ht, q⟩ := h
    have hu := hu_of hr
    refine ⟨_, pss_cons (ps_expr (pe_call (ok_want_texts T) hr (by rfl) T.want_texts.g T.want_texts.F.kp T.want_texts.b .nil pass0 (pa_cons (pe_lst (pa_cons (pv 0) pa_nil)) pa_nil)))
      (pss_cons (ps_set (i := 1) sc_how_many_parts.nd rfl (.inl rfl) pe_int)
      (pss_cons (ps_set (i := 2) sc_how_many_parts.nd rfl (.inl rfl) pe_dnewK)
      (pss_cons (ps_for PassesOwn.never rfl (pi_str (pv 0)) (pg_name (i := 3) sc_how_many_parts.nd rfl (.inl rfl))
        (pss_cons (ps_set (i := 4) sc_how_many_parts.nd rfl (.inl rfl) (pe_op op_sub (pe_op op_mul pe_int (pv 1)) (pe_dget2 hu (pv 2) (pv 3) pe_int ⟨rfl, rfl, rfl, rfl⟩)))
        (pss_cons (ps_dput hu (pv 2) (pv 3) (pv 1) rfl)
        (pss_one (ps_set (i := 1) sc_how_many_parts.nd rfl (.inl rfl) (pv 4))))))
      (pss_one (ps_ret (pv 1)))))), ?_⟩
    refine ⟨_, rfl, by show 1 ≤ sizeLine; decide, fun p np => ?_⟩
    refine ⟨p, [t], rfl, .inl (.inl upd_same), fun l hl => by simp at hl; rw [hl]; exact ht, fun H1 s1 => ?_⟩
    intro d nd
    have sm1 : Same H H1 := (same_upd np).trans s1
    have nd0 : H d = none := sm1.free nd
    refine ⟨tx t, rfl, tS t, rfl, for_it walk_tx (fun i σ H' => ∃ y3 y4 kvs, σ = [some (tx t), some (.int ((M11.subs (t.take i)).length : Int)), some (.ref d), y3, y4] ∧ Same H H' ∧ H' d = some (.dK kvs) ∧ kvs.length ≤ i ∧ ∀ c, (valV kvs (tk [c])).getD (.int 0) = .int (M11.withC (t.take i) c : Int))
      ⟨none, none, [], ?_, same_up sm1 nd0, upd_same, Nat.le_refl _, fun c => ?_⟩ (fun _ _ _ _ _ => trivial) (fun i x σ H2 H3 hi p y => ?_) (fun σ H' p => ?_)⟩
    · rw [List.take_zero]; rfl
    · rw [List.take_zero, M11.withC_nil]; rfl
    · obtain ⟨y3, y4, kvs, rfl, sm, hd, hk, hv⟩ := p
      obtain ⟨rfl, c, hc, rfl⟩ := y
      have hmany := M11.many_snoc (t.take i) c
      have htk : t.take (i + 1) = t.take i ++ [c] := by rw [List.take_add_one, hc]; rfl
      refine ⟨_, rfl, 2, _, rfl, rfl, .inl ⟨by decide, by decide⟩, .ref d, rfl, d, rfl, .inl ⟨kvs, .inl hd⟩, _, rfl, _, DGet.k (k := tk [c]) hd, ?_⟩
      rw [hv c]
      refine ⟨_, _, rfl, rfl, ?_⟩
      refine ⟨_, rfl, _, rfl, _, rfl, d, _, rfl, DPut.k (k := tk [c]) hd ?_, ?_⟩
      · have := ht.2
        have : i ≤ t.length := Nat.le_of_lt hi
        rw [sizeLine_eq]
        omega
      · refine ⟨_, rfl, some (tx [c]), some (.int (2 * ((M11.subs (t.take i)).length : Int) - (M11.withC (t.take i) c : Int))), putK kvs (tk [c]) (.int ((M11.subs (t.take i)).length : Int)), ?_, same_up sm nd0, upd_same, ?_, fun c' => ?_⟩
        · rw [htk]
          have e : 2 * ((M11.subs (t.take i)).length : Int) - (M11.withC (t.take i) c : Int) = ((M11.subs (t.take i ++ [c])).length : Int) := by omega
          rw [← e]
          rfl
        · have := length_putK kvs (tk [c]) (.int ((M11.subs (t.take i)).length : Int))
          omega
        · rw [valV_put, htk, M11.withC_snoc]
          by_cases e : c' = c
          · subst e
            rw [if_pos rfl, if_pos rfl]
            rfl
          · have e2 : ¬ tk [c'] = tk [c] := fun z => e (by simpa using tk_inj z)
            rw [if_neg e2, if_neg e]
            exact hv c'
    · obtain ⟨y3, y4, kvs, rfl, sm, hd, hk, hv⟩ := p
      rw [List.take_of_length_le (Nat.le_refl _)]
      exact ⟨_, rfl, q _ sm⟩
/-! ### text_key -/
theorem ok_text_key (T : All K mg) : FnOk P w K mg base CX0 1 T.f_text_key T.d_text_key ["text"] (spKey keyLen) := by
  refine T.text_key.F.ok sc_text_key (fun vs H Q E h => ?_) (fun cdv A outer s H vs Q E hr h => ?_)
  · obtain ⟨l, rfl, _⟩ := h
    rfl
  · obtain ⟨l, rfl, hl, q⟩ := h
    refine ⟨_, pss_one (ps_ret (pe_tup (pa_cons (pe_callB call_lenT (by rfl) T.b_len PySem.boot_len (pa_cons (pv 0) pa_nil)) (pa_cons (pv 0) pa_nil)))), ?_⟩
    exact ⟨_, rfl, l, rfl, hl, _, rfl, by show 2 ≤ sizeLine; decide, fun p np => q _ p (same_upd np) upd_same⟩
end
end Lw
namespace Lw
open PySem PySem.Spec PyProof.Rows L2 L3
theorem subs_short {t p : List Nat} {i : Nat} (h : p ∈ M11.subs (t.take i)) : p.length ≤ i := by
  have h1 := ((M11.mem_subs _ _).mp h).length_le
  rw [List.length_take] at h1
  omega
theorem merge1 : mergeK [] [(tk [], V.bl true)] = kvsOf (M11.subs ([] : List Nat)) := rfl
section
variable {P : Program} {w : World} {K : PySem.W.Frag} {mg : Str → Option Value} {base : Heap}
/-! ### parts_to -/
def spPartsTo : Sp := fun vs H Q _ => ∃ t : List Nat, vs = [tx t, .int (t.length : Int)] ∧ t.length ≤ 10 ∧ ∀ H' p, Same H H' → H p = none → H' p = some (.tup ((sortT keyLen (M11.subs t)).map tx)) → Q (.ref p) H'
theorem ok_parts_to (T : All K mg) : FnOk P w K mg base CX0 5 T.f_parts_to T.d_parts_to ["text", "number"] spPartsTo := by
  refine T.parts_to.F.ok sc_parts_to (fun vs H Q E h => ?_) (fun cdv A outer s H vs Q E hr h => ?_)
  · obtain ⟨t, rfl, _⟩ := h
    rfl
  · obtain ⟨t, rfl, ht, q⟩ := h
    have hu := hu_of hr
    refine ⟨_, pss_cons (ps_set (i := 2) sc_parts_to.nd rfl (.inl rfl) (pe_disp (pps_cons pe_str pe_bl pps_nil) (by rfl) (by rfl) (fun z => by cases z) (by decide)))
      (pss_cons (ps_for PassesOwn.never rfl (pi_str (pv 0)) (pg_name (i := 3) sc_parts_to.nd rfl (.inl rfl))
        (pss_one (ps_for PassesOwn.never rfl (pi_list (pe_callTy (call_list_dK rfl) (by rfl) T.b_list PyProof.Rows.boot_list (pa_cons (pv 2) pa_nil))) (pg_name (i := 4) sc_parts_to.nd rfl (.inl rfl))
          (pss_one (ps_if (pt_cmpR op_lt (pe_callB call_lenT (by rfl) T.b_len PySem.boot_len (pa_cons (pv 4) pa_nil)) (pv 1) (nomark _))
            (pss_one (ps_dput hu (pv 2) (pe_op op_addT (pv 4) (pv 3)) pe_bl rfl)) pss_nil)))))
      (pss_one (ps_ret (pe_callTy call_tuple_of (by rfl) T.b_tuple (by decide +kernel) (pa_cons (pe_callBK (cr_sortKey (ok_text_key T) (hr.mono (by decide)) T.text_key.b) (by rfl) T.b_sorted PyProof.Rows.boot_sorted
        (pa_cons (pe_callTy (call_list_dK rfl) (by rfl) T.b_list PyProof.Rows.boot_list (pa_cons (pv 2) pa_nil)) pa_nil) (pk_cons (pe_glob (v := .ref T.f_text_key) rfl T.text_key.g rfl) pk_nil)) pa_nil))))), ?_⟩
    -- found = {'': True}
    intro d nd
    refine ⟨upd_same, [(tk [], .bl true)], rfl, by decide, ?_⟩
    rw [upd_upd, merge1]
    refine ⟨tx t, rfl, tS t, rfl, for_it walk_tx (fun i σ H' => ∃ y3 y4, σ = [some (tx t), some (.int (t.length : Int)), some (.ref d), y3, y4] ∧ Same H H' ∧ H' d = some (.dK (kvsOf (M11.subs (t.take i)))))
      ⟨none, none, rfl, same_upd nd, ?_⟩ (fun _ _ _ _ _ => trivial) (fun i x σ H2 H3 hi p y => ?_) (fun σ H' p => ?_)⟩
    · rw [upd_same, List.take_zero]
    · obtain ⟨y3, y4, rfl, sm, hd⟩ := p
      obtain ⟨rfl, c, hc, rfl⟩ := y
      -- for part in list(found)
      refine ⟨.ref d, rfl, d, _, rfl, hd, fun e ne => ?_⟩
      have ne0 : H e = none := sm.free ne
      have nde : d ≠ e := ne_of_none hd ne
      refine ⟨e, rfl, ⟨_, .inl (.inl upd_same)⟩, ?_⟩
      rw [kvs_kV]
      refine for_list (xs := (M11.subs (t.take i)).map tx) (fun j σ H' => ∃ y4, σ = [some (tx t), some (.int (t.length : Int)), some (.ref d), some (tx [c]), y4] ∧ Same H H' ∧ H' e = some (.lst ((M11.subs (t.take i)).map tx)) ∧ H' d = some (.dK (kvsOf (stepJ (M11.subs (t.take i)) c j))))
        ⟨y4, rfl, same_up sm ne0, upd_same, by rw [upd_ne nde]; exact hd⟩ (fun j σ H' _ p => p.elim fun _ p => .inl (.inl p.2.2.1)) (fun j x σ H' hx p => ?_) (fun σ H' p => ?_)
      · obtain ⟨y5, rfl, sm', he, hd'⟩ := p
        rw [List.getElem?_map] at hx
        obtain ⟨l, hl, rfl⟩ := Option.map_eq_some_iff.mp hx
        have hlm := List.mem_of_getElem? hl
        have hshort := subs_short hlm
        have hi10 : i < 10 := Nat.lt_of_lt_of_le hi ht
        have hz : l.length ≤ sizeLine := by rw [sizeLine_eq]; omega
        refine ⟨_, rfl, l, rfl, hz, _, rfl, _, _, rfl, rfl, _, rfl, ?_⟩
        rw [decide_eq_true (by omega)]
        refine iteT ?_
        refine ⟨_, rfl, _, rfl, _, rfl, l, [c], rfl, rfl, by rw [sizeLine_eq]; simp; omega, d, _, rfl, DPut.k (k := tk (l ++ [c])) hd' ?_, ?_⟩
        · have h1 := stepJ_len (M11.subs (t.take i)) c j
          have h2 := subs_small ht i
          unfold kvsOf
          rw [List.length_map, sizeLine_eq]
          omega
        · refine ⟨_, rfl, same_up sm' nd, by rw [upd_ne nde.symm]; exact he, ?_⟩
          rw [upd_same, kvs_put, stepJ_succ hl]
      · obtain ⟨y5, rfl, sm', he, hd'⟩ := p
        refine ⟨_, _, rfl, sm', ?_⟩
        rw [hd', List.length_map, stepJ_all, subs_take hc]
    · obtain ⟨y3, y4, rfl, sm, hd⟩ := p
      rw [List.take_of_length_le (Nat.le_refl _)] at hd
      -- tuple(sorted(list(found), key=text_key))
      refine ⟨.ref d, rfl, d, _, rfl, hd, fun e ne => ?_⟩
      rw [kvs_kV]
      refine ⟨e, M11.subs t, rfl, rfl, .inl (.inl upd_same), fun l hl => ?_, fun H2 p2 s2 n2 e2 => ?_⟩
      · have := ((M11.mem_subs _ _).mp hl).length_le
        rw [sizeLine_eq]
        omega
      · refine ⟨p2, _, rfl, .inl ⟨.inl (.inl e2), fun p3 n3 => ?_⟩⟩
        have sA : Same H H2 := (same_up sm (sm.free ne)).trans s2
        exact q _ p3 (same_up sA (sA.free n3)) (sA.free n3) upd_same
/-! ### parts -/
def spParts : Sp := fun vs H Q _ => ∃ t : List Nat, vs = [tx t] ∧ Small t ∧ t.length ≤ 10 ∧ ∀ H' p, Same H H' → H p = none → H' p = some (.lst ((sortT keyLen (M11.subs t)).map tx)) → Q (.ref p) H'
theorem ok_parts (T : All K mg) : FnOk P w K mg base CX0 6 T.f_parts T.d_parts ["text"] spParts := by
  refine T.parts.F.ok sc_parts (fun vs H Q E h => ?_) (fun cdv A outer s H vs Q E hr h => ?_)
  · obtain ⟨t, rfl, _⟩ := h
    rfl
  · obtain ⟨t, rfl, ht, h10, q⟩ := h
    obtain ⟨tm, hM⟩ := T.c_MOST_LISTED
    refine ⟨_, pss_cons (ps_expr (pe_call (ok_want_texts T) (hr.mono (by decide)) (by rfl) T.want_texts.g T.want_texts.F.kp T.want_texts.b .nil pass0 (pa_cons (pe_lst (pa_cons (pv 0) pa_nil)) pa_nil)))
      (pss_cons (ps_expr (pe_call (ok_want_few T) (hr.mono (by decide)) (by rfl) T.want_few.g T.want_few.F.kp T.want_few.b .nil pass0 (pa_cons pe_str (pa_cons (pe_callB call_lenT (by rfl) T.b_len PySem.boot_len (pa_cons (pv 0) pa_nil)) (pa_cons (pe_glob (v := .int 10) rfl hM ⟨_, rfl⟩) pa_nil)))))
      (pss_one (ps_ret (pe_callTy call_list_of (by rfl) T.b_list PyProof.Rows.boot_list (pa_cons (pe_call (ok_parts_to T) hr (by rfl) T.parts_to.g T.parts_to.F.kp T.parts_to.b .nil pass0 (pa_cons (pv 0) (pa_cons (pe_callB call_lenT (by rfl) T.b_len PySem.boot_len (pa_cons (pv 0) pa_nil)) pa_nil))) pa_nil))))), ?_⟩
    refine ⟨_, rfl, by show 1 ≤ sizeLine; decide, fun p np => ?_⟩
    refine ⟨p, [t], rfl, .inl (.inl upd_same), fun l hl => by simp at hl; rw [hl]; exact ht, fun H1 s1 => ?_⟩
    refine ⟨_, rfl, t, rfl, small_len ht, _, _, _, rfl, by omega, ?_⟩
    refine ⟨_, rfl, _, rfl, t, rfl, small_len ht, t, rfl, h10, fun H2 p2 s2 n2 e2 => ?_⟩
    refine ⟨p2, _, rfl, .inr (.inl (.inl e2)), fun p3 n3 => ?_⟩
    have sA : Same H H2 := ((same_upd np).trans s1).trans s2
    exact q _ p3 (same_up sA (sA.free n3)) (sA.free n3) upd_same
/-! ### _law_parts -/
def lamQ : Str := ("_law_parts" ++ ".<locals>." : Str) ++ "<lambda>"
abbrev TT (Pt : Addr) : List (Addr × Str) := [(Pt, lamQ)]
def spLawParts (Pt : Addr) : Sp := fun vs H Q _ => ∃ t : List Nat, vs = [tx t] ∧ t.length ≤ 10 ∧ LamX.Tabs (TT Pt) H ∧ ∀ H' p, LamX.ExtN H H' → LamX.Tabs (TT Pt) H' → Fresh H p → H' p = some (.lst ((sortT keyLen (M11.subs t)).map tx)) → Q (.ref p) H'
theorem ok_law_parts (T : All K mg) {c Pt : Addr} (hcd : T.d_law_parts.code = .ref c) (TB : LamX.TabB base mg c Pt) : FnOkG P w K mg base CX0 6 T.f_law_parts T.d_law_parts ["_law_text_here"] (spLawParts Pt) := by
  refine okC T.law_parts.F sc_law_parts (fun vs H Q E h => ?_) (fun A outer s H vs Q E hr hG h => ?_)
  · obtain ⟨t, rfl, _⟩ := h
    rfl
  · obtain ⟨t, rfl, ht, hT, q⟩ := h
    have hu := hu_of hr
    refine ⟨_, pss_cons (ps_set (i := 1) sc_law_parts.nd rfl (.inl rfl) (pe_disp (pps_cons pe_str pe_bl pps_nil) (by rfl) (by rfl) (fun z => by cases z) (by decide)))
      (pss_cons (ps_for PassesOwn.never rfl (pi_str (pv 0)) (pg_name (i := 2) sc_law_parts.nd rfl (.inl rfl))
        (pss_one (ps_for PassesOwn.never rfl (pi_list (pe_callTy (call_list_dK rfl) (by rfl) T.b_list PyProof.Rows.boot_list (pa_cons (pv 1) pa_nil))) (pg_name (i := 3) sc_law_parts.nd rfl (.inl rfl))
          (pss_one (ps_dput hu (pv 1) (pe_op op_addT (pv 3) (pv 2)) pe_bl rfl)))))
      (pss_one (ps_ret (pe_sortLam (T := TT Pt) (kf := keyLen) (k := 0) (N := ["_law_one"]) (y := "_law_one") rfl (by rfl) T.b_sorted PyProof.Rows.boot_sorted (pv 1) TB hcd (by exact List.mem_singleton.mpr rfl) (by intro p hp _; rw [List.mem_singleton.mp hp]; rfl) (hr.mono (by decide))
        (by exact ⟨rfl, rfl, rfl, by decide +kernel, rfl, by decide +kernel, by decide +kernel⟩) (by rfl) (by rfl) (by decide +kernel) (fun _ _ _ _ _ => rfl)
        (fun _ _ _ _ _ _ _ => pe_tup (pa_cons (pe_callB call_lenT (by rfl) T.b_len PySem.boot_len (pa_cons (pv 0) pa_nil)) (pa_cons (pv 0) pa_nil)))
        (fun l H hl => ⟨_, rfl, l, rfl, hl, _, rfl, by show 2 ≤ sizeLine; decide, fun p np => ⟨same_upd np, p, rfl, upd_same⟩⟩))))), ?_⟩
    intro d nd
    refine ⟨upd_same, [(tk [], .bl true)], rfl, by decide, ?_⟩
    rw [upd_upd, merge1]
    refine ⟨tx t, rfl, tS t, rfl, for_it walk_tx (fun i σ H' => ∃ y3 y4, σ = [some (tx t), some (.ref d), y3, y4] ∧ Same H H' ∧ H' d = some (.dK (kvsOf (M11.subs (t.take i)))))
      ⟨none, none, rfl, same_upd nd, ?_⟩ (fun _ _ _ _ _ => trivial) (fun i x σ H2 H3 hi p y => ?_) (fun σ H' p => ?_)⟩
    · rw [upd_same, List.take_zero]
    · obtain ⟨y3, y4, rfl, sm, hd⟩ := p
      obtain ⟨rfl, ch, hc, rfl⟩ := y
      refine ⟨.ref d, rfl, d, _, rfl, hd, fun e ne => ?_⟩
      have ne0 : H e = none := sm.free ne
      have nde : d ≠ e := ne_of_none hd ne
      refine ⟨e, rfl, ⟨_, .inl (.inl upd_same)⟩, ?_⟩
      rw [kvs_kV]
      refine for_list (xs := (M11.subs (t.take i)).map tx) (fun j σ H' => ∃ y4, σ = [some (tx t), some (.ref d), some (tx [ch]), y4] ∧ Same H H' ∧ H' e = some (.lst ((M11.subs (t.take i)).map tx)) ∧ H' d = some (.dK (kvsOf (stepJ (M11.subs (t.take i)) ch j))))
        ⟨y4, rfl, same_up sm ne0, upd_same, by rw [upd_ne nde]; exact hd⟩ (fun j σ H' _ p => p.elim fun _ p => .inl (.inl p.2.2.1)) (fun j x σ H' hx p => ?_) (fun σ H' p => ?_)
      · obtain ⟨y5, rfl, sm', he, hd'⟩ := p
        rw [List.getElem?_map] at hx
        obtain ⟨l, hl, rfl⟩ := Option.map_eq_some_iff.mp hx
        have hlm := List.mem_of_getElem? hl
        have hshort := subs_short hlm
        have hi10 : i < 10 := Nat.lt_of_lt_of_le hi ht
        refine ⟨_, rfl, _, rfl, _, rfl, l, [ch], rfl, rfl, by rw [sizeLine_eq]; simp; omega, d, _, rfl, DPut.k (k := tk (l ++ [ch])) hd' ?_, ?_⟩
        · have h1 := stepJ_len (M11.subs (t.take i)) ch j
          have h2 := subs_small ht i
          unfold kvsOf
          rw [List.length_map, sizeLine_eq]
          omega
        · refine ⟨_, rfl, same_up sm' nd, by rw [upd_ne nde.symm]; exact he, ?_⟩
          rw [upd_same, kvs_put, stepJ_succ hl]
      · obtain ⟨y5, rfl, sm', he, hd'⟩ := p
        refine ⟨_, _, rfl, sm', ?_⟩
        rw [hd', List.length_map, stepJ_all, subs_take hc]
    · obtain ⟨y3, y4, rfl, sm, hd⟩ := p
      rw [List.take_of_length_le (Nat.le_refl _)] at hd
      refine ⟨.ref d, rfl, d, M11.subs t, rfl, .inl ⟨_, hd, kvs_keys _⟩, fun l hl => ?_, hT.ext sm, fun H2 p2 s2 t2 f2 e2 => ?_⟩
      · have := ((M11.mem_subs _ _).mp hl).length_le
        rw [sizeLine_eq]
        omega
      · exact q H2 p2 ((LamX.ExtN.of sm).trans s2) t2 (fun b o hb ho => f2 b o (sm b o hb) ho) e2
end
end Lw
namespace Lw
open PySem PySem.Spec PyProof.Rows L2 L3
/-! ### dicts of numbers by letters -/
def kvsN (kk : List (Nat × Int)) : List (Key × V) := kk.map fun p => (tk [p.1], V.int p.2)
theorem kvsN_vals (kk : List (Nat × Int)) : (kvsN kk).map (·.2) = (kk.map (·.2)).map V.int := by
  unfold kvsN
  rw [List.map_map, List.map_map]
  rfl
theorem tk1 {a b : Nat} : tk [a] = tk [b] ↔ a = b := ⟨fun h => by simpa using tk_inj h, fun h => by rw [h]⟩
theorem kvsN_put (kk : List (Nat × Int)) (c : Nat) (v : Int) : putK (kvsN kk) (tk [c]) (V.int v) = kvsN (M11.putN kk c v) := by
  unfold putK M11.putN
  have hany : ((kvsN kk).any fun kv => decide (kv.1 = tk [c])) = decide (c ∈ kk.map (·.1)) := by
    unfold kvsN
    rw [List.any_map]
    by_cases h : c ∈ kk.map (·.1)
    · rw [decide_eq_true h, List.any_eq_true]
      obtain ⟨p, hp, e⟩ := List.mem_map.mp h
      exact ⟨p, hp, decide_eq_true (by show tk [p.1] = tk [c]; rw [e])⟩
    · rw [decide_eq_false h, List.any_eq_false]
      exact fun p hp e => h (List.mem_map.mpr ⟨p, hp, tk1.mp (of_decide_eq_true e)⟩)
  rw [hany]
  by_cases h : c ∈ kk.map (·.1)
  · rw [if_pos (decide_eq_true h), if_pos h]
    unfold kvsN
    rw [List.map_map, List.map_map]
    apply List.map_congr_left
    intro p _
    show (if tk [p.1] = tk [c] then (tk [p.1], V.int v) else (tk [p.1], V.int p.2)) = (tk [(if p.1 = c then (p.1, v) else p).1], V.int (if p.1 = c then (p.1, v) else p).2)
    by_cases e : p.1 = c
    · rw [if_pos (tk1.mpr e), if_pos e]
    · rw [if_neg (fun z => e (tk1.mp z)), if_neg e]
  · rw [if_neg (fun e => h (of_decide_eq_true e)), if_neg h]
    unfold kvsN
    rw [List.map_append]
    rfl
theorem putN_len (kk : List (Nat × Int)) (c : Nat) (v : Int) : (M11.putN kk c v).length ≤ kk.length + 1 := by
  unfold M11.putN
  split
  · rw [List.length_map]; omega
  · rw [List.length_append]; exact Nat.le_refl _
section
variable {P : Program} {w : World} {K : PySem.W.Frag} {mg : Str → Option Value} {base : Heap}
/-! ### _law_in -/
def spLawIn : Sp := fun vs H Q _ => ∃ o t, vs = [tx o, tx t] ∧ o.length ≤ sizeLine ∧ t.length ≤ sizeLine ∧ Q (.bl (decide (o.Sublist t))) H
theorem ok_law_in (T : All K mg) : FnOk P w K mg base CX0 1 T.f_law_in T.d_law_in ["_law_one", "_law_text_here"] spLawIn := by
  refine T.law_in.F.ok sc_law_in (fun vs H Q E h => ?_) (fun cdv A outer s H vs Q E hr h => ?_)
  · obtain ⟨t, w, rfl, _⟩ := h
    rfl
  · obtain ⟨o, t, rfl, ho, ht, q⟩ := h
    refine ⟨_, pss_cons (ps_set (i := 2) sc_law_in.nd rfl (.inl rfl) pe_int)
      (pss_cons (ps_for PassesOwn.never rfl (pi_str (pv 0)) (pg_name (i := 3) sc_law_in.nd rfl (.inl rfl))
        (pss_cons (ps_set (i := 2) sc_law_in.nd rfl (.inl rfl) (pe_op op_add (pe_bm PySem.F.plainAttrs_str PySem.F.slot_str_find PySem.F.type_str_find mt_findT (pv 1) (pa_cons (pv 3) (pa_cons (pv 2) pa_nil))) pe_int))
        (pss_one (ps_if (pt_cmpR op_eq (pv 2) pe_int (nomark _)) (pss_one (ps_ret pe_bl)) pss_nil))))
      (pss_one (ps_ret pe_bl))), ?_⟩
    refine ⟨tx o, rfl, tS o, rfl, for_it walk_tx (fun i σ H' => ∃ (y : Option V) (k : Nat), σ = [some (tx o), some (tx t), some (.int (k : Int)), y] ∧ H' = H ∧ (o.Sublist t ↔ (o.drop i).Sublist (t.drop k))) ⟨none, 0, rfl, rfl, by simp⟩ (fun _ _ _ _ _ => trivial) (fun i x σ H1 H2 hi p y => ?_) (fun σ H' p => ?_)⟩
    · obtain ⟨y0, k, rfl, rfl, hk⟩ := p
      obtain ⟨rfl, c, hc, rfl⟩ := y
      have hd : o.drop i = c :: o.drop (i + 1) := by
        have e : o[i] = c := by
          rw [List.getElem?_eq_getElem hi] at hc
          exact Option.some.inj hc
        rw [List.drop_eq_getElem_cons hi, e]
      refine ⟨_, rfl, rfl, _, rfl, _, rfl, t, c, k, rfl, rfl, fun hn => ?_, fun j hj hjc hn => ?_⟩
      · refine ⟨_, _, rfl, rfl, ?_⟩
        refine ⟨_, rfl, rfl, _, rfl, iteT ?_⟩
        have e : decide (o.Sublist t) = false := decide_eq_false fun z => by
          have := hk.mp z
          rw [hd] at this
          exact M11.sub_none hn this
        rw [e] at q
        exact q
      · refine ⟨_, _, rfl, rfl, ?_⟩
        refine ⟨_, rfl, rfl, _, rfl, ?_⟩
        rw [decide_eq_false (fun z => by have := V.int.inj z; omega)]
        refine iteF ⟨some (tx [c]), j + 1, ?_, rfl, ?_⟩
        · rfl
        · rw [hk, hd]
          have := M11.sub_first (t := t) (r := o.drop (i + 1)) (c := c) (j - k) k (by rw [show k + (j - k) = j by omega]; exact hjc) fun v h1 h2 => hn v h1 (by omega)
          rw [show k + (j - k) + 1 = j + 1 by omega] at this
          exact this
    · obtain ⟨y0, k, rfl, rfl, hk⟩ := p
      have e : decide (o.Sublist t) = true := decide_eq_true (hk.mpr (by rw [List.drop_of_length_le (Nat.le_refl _)]; exact List.nil_sublist _))
      rw [e] at q
      exact q
/-! ### _law_many -/
def spLawMany : Sp := fun vs H Q _ => ∃ t : List Nat, vs = [tx t] ∧ Small t ∧ ∀ H', Same H H' → Q (.int ((M11.subs t).length : Int)) H'
theorem ok_law_many (T : All K mg) : FnOk P w K mg base CX0 1 T.f_law_many T.d_law_many ["_law_text_here"] spLawMany := by
  refine T.law_many.F.ok sc_law_many (fun vs H Q E h => ?_) (fun cdv A outer s H vs Q E hr h => ?_)
  · obtain ⟨t, rfl, _⟩ := h
    rfl
  · obtain ⟨t, rfl, ht, q⟩ := h
    have hu := hu_of hr
    refine ⟨_, pss_cons (ps_set (i := 1) sc_law_many.nd rfl (.inl rfl) pe_dnewK)
      (pss_cons (ps_for PassesOwn.never rfl (pi_range3 rfl T.b_range (pa_cons (pe_op op_sub (pe_callB call_lenT (by rfl) T.b_len PySem.boot_len (pa_cons (pv 0) pa_nil)) pe_int) (pa_cons (pe_un un_neg pe_int) (pa_cons (pe_un un_neg pe_int) pa_nil)))) (pg_name (i := 2) sc_law_many.nd rfl (.inl rfl))
        (pss_one (ps_dput hu (pv 1) (pe_ix ix_tx (pv 0) (pv 2) (fun _ _ => rfl)) (pe_op op_add pe_int (pe_callB (cr_sum rfl) (by rfl) T.b_sum PyProof.Rows.boot_sum (pa_cons (pe_listVals rfl (pv 1) (by rfl) T.b_list PyProof.Rows.boot_list) pa_nil))) rfl)))
      (pss_one (ps_ret (pe_op op_add pe_int (pe_callB (cr_sum rfl) (by rfl) T.b_sum PyProof.Rows.boot_sum (pa_cons (pe_listVals rfl (pv 1) (by rfl) T.b_list PyProof.Rows.boot_list) pa_nil)))))), ?_⟩
    intro d nd
    have hl := ht.2
    refine ⟨_, rfl, t, rfl, small_len ht, _, _, rfl, rfl, 1, rfl, 1, rfl, _, _, _, _, rfl, RgC.neg (by omega) (by omega) (by decide) (by decide), ?_⟩
    have hn : ((t.length : Int) - 1 - -1).toNat = t.length := by omega
    rw [hn]
    refine for_rangeC (lo := (t.length : Int) - 1) (c := -1) (n := t.length) (fun i σ H' => ∃ y kk, σ = [some (tx t), some (.ref d), y] ∧ Same H H' ∧ H' d = some (.dK (kvsN kk)) ∧ kk.length ≤ i ∧ (kk.map (·.1)).Nodup ∧ 1 + M11.sumN kk = ((M11.subs (t.reverse.take i)).length : Int) ∧ ∀ c, M11.lookN kk c = (M11.withC (t.reverse.take i) c : Int))
      ⟨none, [], rfl, same_upd nd, upd_same, Nat.le_refl _, List.nodup_nil, by simp [M11.sumN, M11.subs], fun c => by rw [List.take_zero, M11.withC_nil]; rfl⟩ (fun i σ H' hi p => ?_) (fun σ H' p => ?_)
    · obtain ⟨y, kk, rfl, sm, hd, hk, hnd, hs, hv⟩ := p
      -- 1 + sum(list(behind.values()))
      refine ⟨.ref d, rfl, d, _, rfl, hd, fun e ne => ?_⟩
      have nde : d ≠ e := ne_of_none hd ne
      have ne0 : H e = none := sm.free ne
      refine ⟨e, kk.map (·.2), rfl, .inl (.inl (by rw [upd_same, kvsN_vals])), 1, _, rfl, rfl, ?_⟩
      have hi2 : t.length - 1 - i < t.length := by omega
      have hix : ((t.length : Int) - 1 + (i : Nat) * -1) = ((t.length - 1 - i : Nat) : Int) := by omega
      refine ⟨_, rfl, tx t, rfl, _, rfl, t, t.length - 1 - i, t[t.length - 1 - i], rfl, by rw [hix], small_len ht, List.getElem?_eq_getElem hi2, d, _, rfl, DPut.k (k := tk [t[t.length - 1 - i]]) (by rw [upd_ne nde]; exact hd) ?_, ?_⟩
      · unfold kvsN
        rw [List.length_map, sizeLine_eq]
        omega
      · have hrev : t.reverse.take (i + 1) = t.reverse.take i ++ [t[t.length - 1 - i]] := by
          rw [List.take_add_one, List.getElem?_reverse (by omega), List.getElem?_eq_getElem hi2]
          rfl
        have hmany := M11.many_snoc (t.reverse.take i) t[t.length - 1 - i]
        have hvc := hv t[t.length - 1 - i]
        refine ⟨_, M11.putN kk t[t.length - 1 - i] (1 + M11.sumN kk), rfl, same_up (same_up sm ne0) nd, ?_, ?_, M11.nodup_put hnd _ _, ?_, fun c => ?_⟩
        · rw [upd_same]
          show some (HO.dK (putK (kvsN kk) (tk [t[t.length - 1 - i]]) (V.int (1 + M11.sumN kk)))) = _
          rw [kvsN_put]
        · have := putN_len kk t[t.length - 1 - i] (1 + M11.sumN kk)
          omega
        · rw [M11.sum_put hnd, hrev]
          omega
        · rw [M11.look_put, hrev, M11.withC_snoc]
          by_cases e2 : c = t[t.length - 1 - i]
          · rw [if_pos e2, if_pos e2]
            exact hs
          · rw [if_neg e2, if_neg e2]
            exact hv c
    · obtain ⟨y, kk, rfl, sm, hd, hk, hnd, hs, hv⟩ := p
      refine ⟨.ref d, rfl, d, _, rfl, hd, fun e ne => ?_⟩
      have ne0 : H e = none := sm.free ne
      refine ⟨e, kk.map (·.2), rfl, .inl (.inl (by rw [upd_same, kvsN_vals])), 1, _, rfl, rfl, ?_⟩
      have e1 : t.reverse.take t.length = t.reverse := List.take_of_length_le (by rw [List.length_reverse]; exact Nat.le_refl _)
      rw [e1, M11.many_rev] at hs
      show Q (.int (1 + M11.sumN kk)) _
      rw [hs]
      exact q _ (same_up sm ne0)
end
end Lw
namespace Lw
open PySem PySem.Spec PyProof.Rows L2 L3
/-- a pot: two numbers -/
def Pot (H : Hp) (a : Addr) : Prop := ∃ x y : Int, H a = some (.lst [.int x, .int y]) ∧ 0 ≤ x ∧ 0 ≤ y ∧ y < 4294967296
/-- all but a stays -/
def Off (a : Addr) (H H' : Hp) : Prop := ∀ b o, H b = some o → b ≠ a → H' b = some o
theorem Off.refl (a : Addr) (H : Hp) : Off a H H := fun _ _ e _ => e
theorem Off.trans {a : Addr} {H H1 H2 : Hp} (x : Off a H H1) (y : Off a H1 H2) : Off a H H2 := fun b o e n => y b o (x b o e n) n
theorem Off.of {a : Addr} {H H' : Hp} (s : Same H H') : Off a H H' := fun b o e _ => s b o e
theorem Off.up {a p : Addr} {H H' : Hp} {o : HO} (x : Off a H H') (h : H p = none) : Off a H (upd H' p o) := fun b u e n => by
  rw [upd_ne (ne_of_none e h)]
  exact x b u e n
theorem Off.at {a : Addr} {H H' : Hp} {o : HO} (x : Off a H H') : Off a H (upd H' a o) := fun b u e n => by
  rw [upd_ne n]
  exact x b u e n
theorem Pot.some {H : Hp} {a : Addr} (h : Pot H a) : H a ≠ none := fun e => by
  obtain ⟨x, y, h, _⟩ := h
  rw [e] at h
  cases h
theorem Off.free {a : Addr} {H H' : Hp} (x : Off a H H') {l : Addr} (h : H' l = none) (hp : Pot H' a) : H l = none := by
  cases q : H l with
  | none => rfl
  | some o =>
    by_cases e : l = a
    · subst e
      exact absurd h hp.some
    · rw [x l o q e] at h
      cases h
theorem Off.seq {K : PySem.W.Frag} {a l : Addr} {H H' : Hp} {xs : List V} (x : Off a H H') (n : l ≠ a) (h : SqL K H l xs) : SqL K H' l xs := by
  rcases h with (h | ⟨o, h⟩) | h
  · exact .inl (.inl (x _ _ h n))
  · exact .inl (.inr ⟨o, x _ _ h n⟩)
  · exact .inr h
section
variable {P : Program} {w : World} {K : PySem.W.Frag} {mg : Str → Option Value} {base : Heap}
/-! ### _law_pot -/
def spPot (K : PySem.W.Frag) : Sp := fun vs H Q _ => ∃ (a : Addr) (ns : List Int) (k : Nat), vs = [.ref a, .int (k : Int)] ∧ SqL K H a (ns.map V.int) ∧ k ≤ 10 ∧ ∀ H' p, Same H H' → H p = none → Pot H' p → Q (.ref p) H'
theorem pot_fin {H : Hp} {p : Addr} {z : Int} (x : Int) : Pot (upd H p (.lst [.int (if x > 0 then x else 0), .int (z % 2147483579 + 1)])) p := by
  refine ⟨_, _, upd_same, ?_, ?_, ?_⟩
  · split <;> omega
  · omega
  · omega
theorem ok_law_pot (T : All K mg) : FnOk P w K mg base CX0 1 T.f_law_pot T.d_law_pot ["_law_script", "_law_k"] (spPot K) := by
  refine T.law_pot.F.ok sc_law_pot (fun vs H Q E h => ?_) (fun cdv A outer s H vs Q E hr h => ?_)
  · obtain ⟨a, ns, k, rfl, _⟩ := h
    rfl
  · obtain ⟨a, ns, k, rfl, hS, hk, q⟩ := h
    refine ⟨_, pss_cons (ps_set (i := 2) sc_law_pot.nd rfl (.inl rfl) (pe_op op_add (pe_op op_mul pe_int (pv 1)) pe_int))
      (pss_cons (ps_if (pt_cmpR op_lt (pv 1) (pe_callB call_len_seq (by rfl) T.b_len PySem.boot_len (pa_cons (pv 0) pa_nil)) (nomark _))
        (pss_one (ps_set (i := 2) sc_law_pot.nd rfl (.inl rfl) (pe_callB call_abs (by rfl) T.b_abs PyProof.Rows.boot_abs (pa_cons (pe_ix ix_list (pv 0) (pv 1) (fun _ _ => rfl)) pa_nil)))) pss_nil)
      (pss_one (ps_ret (pe_lst (pa_cons (pe_callB (call_max2 rfl) (by rfl) T.b_max PyProof.Rows.boot_max (pa_cons pe_int (pa_cons (pe_op op_sub (pv 2) (pe_op op_pow pe_int pe_int)) pa_nil)))
        (pa_cons (pe_op op_add (pe_op op_mod (pe_callTy call_int1 (by rfl) T.b_int PyProof.Rows.boot_int (pa_cons (pe_op op_add (pe_op op_add (pe_op op_mul (pe_op op_mod (pe_callTy call_int1 (by rfl) T.b_int PyProof.Rows.boot_int (pa_cons (pv 2) pa_nil)) pe_int) pe_int) (pe_op op_mul pe_int (pv 1))) pe_int) pa_nil)) pe_int) pe_int) pa_nil)))))), ?_⟩
    refine ⟨_, rfl, _, _, rfl, rfl, .inl ⟨by decide, by decide⟩, _, _, rfl, rfl, ?_⟩
    refine ⟨_, rfl, _, rfl, a, ns.map V.int, rfl, .inl hS, _, _, rfl, rfl, _, rfl, ite2 (fun e => ?_) (fun e => ?_)⟩
    · have hlt : k < ns.length := by
        have := of_decide_eq_true e
        rw [List.length_map] at this
        omega
      refine ⟨_, rfl, _, rfl, a, _, _, .int ns[k], rfl, rfl, hS, atI_nat (by rw [List.getElem?_map, List.getElem?_eq_getElem hlt]; rfl), _, rfl, ?_⟩
      refine ⟨_, rfl, 10, 18, rfl, rfl, ⟨by decide, by decide, by decide⟩, _, _, rfl, rfl, _, _, rfl, ?_⟩
      refine ⟨_, rfl, .inl ⟨_, rfl, _, _, rfl, rfl, (by show (0 : Int) < 2147483549; decide), _, _, rfl, rfl, .inr ⟨by decide, by decide⟩, _, rfl, _, _, rfl, rfl, .inl ⟨by decide, by decide⟩, _, _, rfl, rfl, _, _, rfl, rfl,
        .inl ⟨_, rfl, _, _, rfl, rfl, (by show (0 : Int) < 2147483579; decide), _, _, rfl, rfl, (by show 2 ≤ sizeLine; decide), fun p np => ?_⟩⟩⟩
      exact q _ p (same_upd np) np (pot_fin _)
    · refine ⟨_, rfl, 10, 18, rfl, rfl, ⟨by decide, by decide, by decide⟩, _, _, rfl, rfl, _, _, rfl, ?_⟩
      refine ⟨_, rfl, .inl ⟨_, rfl, _, _, rfl, rfl, (by show (0 : Int) < 2147483549; decide), _, _, rfl, rfl, .inr ⟨by decide, by decide⟩, _, rfl, _, _, rfl, rfl, .inl ⟨by decide, by decide⟩, _, _, rfl, rfl, _, _, rfl, rfl,
        .inl ⟨_, rfl, _, _, rfl, rfl, (by show (0 : Int) < 2147483579; decide), _, _, rfl, rfl, (by show 2 ≤ sizeLine; decide), fun p np => ?_⟩⟩⟩
      exact q _ p (same_upd np) np (pot_fin _)
/-! ### _law_draw -/
def spDraw : Sp := fun vs H Q _ => ∃ (a : Addr) (n : Nat), vs = [.ref a, .int (n : Int)] ∧ Pot H a ∧ 0 < n ∧ n ≤ 1000000 ∧ ∀ (H' : Hp) (d : Nat), d < n → Pot H' a → Off a H H' → Q (.int (d : Int)) H'
theorem ix2_0 {x y : V} : ixN [x, y].length (0 : Int) = some 0 := rfl
theorem ix2_1 {x y : V} : ixN [x, y].length (1 : Int) = some 1 := rfl
theorem ok_law_draw (T : All K mg) : FnOk P w K mg base CX0 1 T.f_law_draw T.d_law_draw ["_law_pot_here", "_law_sides"] spDraw := by
  refine T.law_draw.F.ok sc_law_draw (fun vs H Q E h => ?_) (fun cdv A outer s H vs Q E hr h => ?_)
  · obtain ⟨a, n, rfl, _⟩ := h
    rfl
  · obtain ⟨a, n, rfl, hp, hn, hn2, q⟩ := h
    obtain ⟨x, y, ha, hx, hy, hy2⟩ := hp
    refine ⟨_, pss_cons (ps_if (pt_cmpR op_gt (pe_ix ix_list (pv 0) pe_int (fun _ _ => rfl)) pe_int (nomark _))
        (pss_cons (ps_asg (pe_callB call_divmod (by rfl) T.b_divmod PyProof.Rows.boot_divmod (pa_cons (pe_ix ix_list (pv 0) pe_int (fun _ _ => rfl)) (pa_cons (pv 1) pa_nil))) (pg_tup (by rfl) (pgs_cons (pg_sub (pv 0) pe_int set_list) (pgs_cons (pg_name (i := 2) sc_law_draw.nd rfl (.inl rfl)) pgs_nil))))
        (pss_one (ps_ret (pv 2)))) pss_nil)
      (pss_cons (ps_asg (pe_op op_mod (pe_callTy call_int1 (by rfl) T.b_int PyProof.Rows.boot_int (pa_cons (pe_op op_add (pe_op op_mul (pe_ix ix_list (pv 0) pe_int (fun _ _ => rfl)) pe_int) pe_int) pa_nil)) pe_int) (pg_sub (pv 0) pe_int set_list))
      (pss_one (ps_ret (pe_op op_mod (pe_callTy call_int1 (by rfl) T.b_int PyProof.Rows.boot_int (pa_cons (pe_op op_fdiv (pe_op op_mod (pe_callTy call_int1 (by rfl) T.b_int PyProof.Rows.boot_int (pa_cons (pe_op op_mul (pe_ix ix_list (pv 0) pe_int (fun _ _ => rfl)) (pe_ix ix_list (pv 0) pe_int (fun _ _ => rfl))) pa_nil)) pe_int) pe_int) pa_nil)) (pv 1))))), ?_⟩
    refine ⟨_, rfl, a, _, _, .int x, rfl, rfl, .inl (.inl ha), rfl, _, _, rfl, rfl, _, rfl, ite2 (fun e => ?_) (fun e => ?_)⟩
    · -- the pot's own digits
      have hx0 : 0 < x := of_decide_eq_true e
      refine ⟨_, rfl, a, _, _, .int x, rfl, rfl, .inl (.inl ha), rfl, _, rfl, x, n, rfl, ⟨by omega, by omega⟩, fun t nt => ?_⟩
      have nat' : a ≠ t := ne_of_none ha nt
      have ha2 : upd H t (.tup [.int (x / n), .int (x % n)]) a = some (.lst [.int x, .int y]) := by rw [upd_ne nat']; exact ha
      refine ⟨t, _, rfl, .inl (.inl upd_same), rfl, _, _, rfl, _, rfl, a, _, _, 0, rfl, rfl, ha2, ix2_0, _, _, rfl, rfl, ?_⟩
      have h0 := Int.emod_nonneg x (show (n : Int) ≠ 0 by omega)
      have h1 := Int.emod_lt_of_pos x (show (0 : Int) < (n : Int) by omega)
      obtain ⟨d, hd⟩ := Int.eq_ofNat_of_zero_le h0
      refine ⟨_, rfl, ?_⟩
      rw [hd]
      refine q _ d (by omega) ⟨x / n, y, upd_same, Int.ediv_nonneg hx (by omega), hy, hy2⟩ (Off.at (Off.up (Off.refl a H) nt))
    · -- the mixed number
      refine ⟨_, rfl, a, _, _, .int y, rfl, rfl, .inl (.inl ha), rfl, y, _, rfl, rfl, .inl ⟨by omega, by omega⟩, _, _, rfl, rfl, .inl ⟨_, rfl, _, _, rfl, rfl, (by show (0 : Int) < 2147483563; decide), ?_⟩⟩
      refine ⟨_, rfl, a, _, _, 1, rfl, rfl, ha, ix2_1, ?_⟩
      have hz := Int.emod_nonneg (y * 40009 + 1037) (show (2147483563 : Int) ≠ 0 by decide)
      have hz2 := Int.emod_lt_of_pos (y * 40009 + 1037) (show (0 : Int) < 2147483563 by decide)
      obtain ⟨z, hz0⟩ : ∃ z, (y * 40009 + 1037) % 2147483563 = z := ⟨_, rfl⟩
      have hA : upd H a (.lst ([V.int x, V.int y].set 1 ((fun i j => V.int (i % j)) (y * 40009 + 1037) 2147483563))) a = some (.lst [.int x, .int z]) := by
        rw [upd_same]
        show some (HO.lst [V.int x, V.int ((y * 40009 + 1037) % 2147483563)]) = _
        rw [hz0]
      rw [hz0] at hz hz2
      refine ⟨_, rfl, a, _, _, .int z, rfl, rfl, .inl (.inl hA), rfl, _, rfl, a, _, _, .int z, rfl, rfl, .inl (.inl hA), rfl, z, z, rfl, rfl, .inl ⟨by omega, by omega⟩,
        .inl ⟨_, rfl, _, _, rfl, rfl, (by show (0 : Int) < 2147483543; decide), _, _, rfl, rfl, ⟨by decide, by decide⟩, .inl ⟨_, rfl, _, rfl, _, _, rfl, rfl, (by show (0 : Int) < (n : Int); omega), ?_⟩⟩⟩
      have h0 := Int.emod_nonneg (z * z % 2147483543 / 17) (show (n : Int) ≠ 0 by omega)
      have h1 := Int.emod_lt_of_pos (z * z % 2147483543 / 17) (show (0 : Int) < (n : Int) by omega)
      obtain ⟨d, hd⟩ := Int.eq_ofNat_of_zero_le h0
      show Q (.int (z * z % 2147483543 / 17 % (n : Int))) _
      rw [hd]
      exact q _ d (by omega) ⟨x, z, hA, hx, hz, by omega⟩ (Off.at (Off.refl a H))
/-! ### _law_pick -/
def spPick (K : PySem.W.Frag) : Sp := fun vs H Q _ => ∃ (a : Addr) (x : V), vs = [.ref a, x] ∧ Pot H a ∧
  ((∃ l : List Nat, x = tx l ∧ l ≠ [] ∧ l.length ≤ 1000 ∧ ∀ (H' : Hp) (c : Nat), c ∈ l → Pot H' a → Off a H H' → Q (tx [c]) H') ∨
   ∃ (b : Addr) (xs : List V), x = .ref b ∧ b ≠ a ∧ SqL K H b xs ∧ xs ≠ [] ∧ xs.length ≤ 1000 ∧ ∀ (H' : Hp) (v : V), v ∈ xs → Pot H' a → Off a H H' → Q v H')
theorem ok_law_pick (T : All K mg) : FnOk P w K mg base CX0 2 T.f_law_pick T.d_law_pick ["_law_pot_here", "_law_some"] (spPick K) := by
  refine T.law_pick.F.ok sc_law_pick (fun vs H Q E h => ?_) (fun cdv A outer s H vs Q E hr h => ?_)
  · obtain ⟨a, x, rfl, _⟩ := h
    rfl
  · obtain ⟨a, x, rfl, hp, h⟩ := h
    refine ⟨_, pss_one (ps_ret (pe_ix ix_seq (pv 1) (pe_call (ok_law_draw T) hr (by rfl) T.law_draw.g T.law_draw.F.kp T.law_draw.b .nil pass0 (pa_cons (pv 0) (pa_cons (pe_callB call_len (by rfl) T.b_len PySem.boot_len (pa_cons (pv 1) pa_nil)) pa_nil))) (fun _ _ => rfl))), ?_⟩
    rcases h with ⟨l, rfl, hl, hl2, q⟩ | ⟨b, xs, rfl, hba, hS, hl, hl2, q⟩
    · have hpos : 0 < l.length := List.length_pos_iff.mpr hl
      refine ⟨_, rfl, _, rfl, _, rfl, _, l.length, rfl, ⟨by rw [tS_len, sizeLine_eq]; omega, (tS_len l).symm⟩, a, l.length, rfl, hp, hpos, by omega, fun H' d hd hp' ho => ?_⟩
      refine .inr (.inr ⟨_, _, l[d], rfl, rfl, by rw [tS_len, sizeLine_eq]; omega, atI_nat (by simp [hd]), ?_⟩)
      exact q H' l[d] (List.getElem_mem hd) hp' ho
    · have hpos : 0 < xs.length := List.length_pos_iff.mpr hl
      refine ⟨_, rfl, _, rfl, _, rfl, _, xs.length, rfl, .inl ⟨xs, hS, rfl⟩, a, xs.length, rfl, hp, hpos, by omega, fun H' d hd hp' ho => ?_⟩
      refine .inl ⟨b, xs, _, xs[d], rfl, rfl, ho.seq hba hS, atI_nat (List.getElem?_eq_getElem hd), ?_⟩
      exact q H' xs[d] (List.getElem_mem hd) hp' ho
end
end Lw
namespace Lw
open PySem PySem.Spec PyProof.Rows L2 L3
theorem glue_fold (g : Str) (hg : g.cps = #[]) : ∀ (ls : List (List Nat)) (acc : Array Nat), (ls.map tS).foldl (fun acc p => acc ++ g.cps ++ p.cps) acc = acc ++ ls.flatten.toArray
  | [], acc => by simp
  | l :: ls, acc => by
    rw [List.map_cons, List.foldl_cons, glue_fold g hg ls, hg]
    simp
theorem join_tx (ls : List (List Nat)) : Txt.join ("" : Str) (ls.map tS) = tS ls.flatten := by
  show (⟨((ls.map tS).drop 1).foldl (fun acc p => acc ++ ("" : Str).cps ++ p.cps) ((ls.map tS).headD Str.empty).cps⟩ : Str) = _
  have hg : ("" : Str).cps = #[] := by decide +kernel
  cases ls with
  | nil => rfl
  | cons l ls =>
    show (⟨(ls.map tS).foldl (fun acc p => acc ++ ("" : Str).cps ++ p.cps) l.toArray⟩ : Str) = _
    rw [glue_fold _ hg]
    simp
theorem flat_one (cs : List Nat) : (cs.map fun c => [c]).flatten = cs := by
  induction cs with
  | nil => rfl
  | cons c cs ih => rw [List.map_cons, List.flatten_cons, ih]; rfl
theorem sum_one (cs : List Nat) : ((cs.map fun c => tS [c]).map (·.length)).sum = cs.length := by
  induction cs with
  | nil => rfl
  | cons c cs ih =>
    rw [List.map_cons, List.map_cons, List.sum_cons, ih, List.length_cons, tS_len]
    simp
    omega
theorem Pot.up {H : Hp} {a p : Addr} {o : HO} (h : Pot H a) (n : a ≠ p) : Pot (upd H p o) a := by
  obtain ⟨x, y, e, r⟩ := h
  exact ⟨x, y, by rw [upd_ne n]; exact e, r⟩
theorem Pot.ne {H : Hp} {a p : Addr} (h : Pot H a) (e : H p = none) : a ≠ p := fun z => h.some (by rw [z]; exact e)
theorem Pot.same {H H' : Hp} {a : Addr} (h : Pot H a) (s : Same H H') : Pot H' a := by
  obtain ⟨x, y, e, r⟩ := h
  exact ⟨x, y, s _ _ e, r⟩
section
variable {P : Program} {w : World} {K : PySem.W.Frag} {mg : Str → Option Value} {base : Heap}
/-! ### _law_text -/
def spText : Sp := fun vs H Q _ => ∃ (a : Addr) (sg : List Nat) (m : Nat), vs = [.ref a, tx sg, .int (m : Int)] ∧ Pot H a ∧ sg ≠ [] ∧ sg.length ≤ 1000 ∧ m ≤ 1000 ∧
  ∀ (H' : Hp) (t : List Nat), t.length ≤ m → (∀ c ∈ t, c ∈ sg) → Pot H' a → Off a H H' → Q (tx t) H'
theorem ok_law_text (T : All K mg) : FnOk P w K mg base CX0 3 T.f_law_text T.d_law_text ["_law_pot_here", "_law_signs", "_law_most"] spText := by
  refine T.law_text.F.ok sc_law_text (fun vs H Q E h => ?_) (fun cdv A outer s H vs Q E hr h => ?_)
  · obtain ⟨a, sg, m, rfl, _⟩ := h
    rfl
  · obtain ⟨a, sg, m, rfl, hp, hs, hs2, hm, q⟩ := h
    refine ⟨_, pss_one (ps_ret (pe_join pe_str (pe_lc (own := [("_law_turn", 3)]) (g := gName 3) (tt := tYes) rfl sc_law_text.nd (pi_range1 rfl T.b_range (pa_cons (pe_call (ok_law_draw T) (hr.mono (by decide)) (by rfl) T.law_draw.g T.law_draw.F.kp T.law_draw.b .nil pass0 (pa_cons (pv 0) (pa_cons (pe_op op_add (pv 2) pe_int) pa_nil))) pa_nil))
      (blkOk_by (own := [("_law_turn", 3)]) (N := ["_law_pot_here", "_law_signs", "_law_most", "_law_turn"]) (sc := defScope s_law_text) (by decide +kernel))
      (fun _ _ _ _ _ => pg_name (i := 3) sc_law_text.nd rfl (Or.inl rfl)) (fun _ _ _ _ _ => pts_nil)
      (fun _ _ _ _ _ => pe_call (ok_law_pick T) hr (by rfl) T.law_pick.g T.law_pick.F.kp T.law_pick.b .nil pass0 (pa_cons (pv 0) (pa_cons (pv 1) pa_nil)))))), ?_⟩
    refine ⟨⟨_, rfl⟩, _, rfl, _, rfl, _, _, rfl, rfl, a, m + 1, rfl, hp, by omega, by omega, fun H1 d hd hp1 ho1 => ?_⟩
    refine ⟨_, rfl, by omega, by omega, fun D nD => ?_⟩
    have hda : a ≠ D := hp1.ne nD
    have nD0 : H D = none := ho1.free nD hp1
    refine lc_gen walk_range (fun H' => Pot H' a ∧ Off a H H') (fun i acc => ∃ cs : List Nat, acc = cs.map (fun c => tx [c]) ∧ cs.length = i ∧ ∀ c ∈ cs, c ∈ sg) (by rw [sizeLine_eq]; omega) (fun i acc ⟨cs, e, l, _⟩ => by rw [e, List.length_map]; omega)
      ⟨[], rfl, rfl, fun c hc => by simp at hc⟩ ⟨hp1.up hda, ho1.up nD0⟩ (fun H' x h => ⟨h.1.up hda, h.2.up nD0⟩) (fun _ _ => trivial) (fun i x H2 H3 acc C N hi r hD ha y c n => ?_) (fun H2 xs r hD ha => ?_)
    · obtain ⟨rfl, rfl⟩ := y
      obtain ⟨cs, rfl, hcl, hcm⟩ := ha
      refine ⟨rfl, yes_te ?_⟩
      refine ⟨_, rfl, _, rfl, a, _, rfl, r.1, .inl ⟨sg, rfl, hs, hs2, fun H4 ch hch hp4 ho4 => ?_⟩⟩
      refine c _ _ ⟨hp4, r.2.trans ho4⟩ (ho4 _ _ hD hda.symm) ⟨cs ++ [ch], by rw [List.map_append]; rfl, by rw [List.length_append, hcl]; rfl, fun x hx => ?_⟩
      rcases List.mem_append.mp hx with hx | hx
      · exact hcm x hx
      · rw [List.mem_singleton.mp hx]
        exact hch
    · obtain ⟨cs, rfl, hcl, hcm⟩ := ha
      refine ⟨_, D, cs.map fun c => tS [c], rfl, rfl, .inl (.inl (.inl (by rw [hD, List.map_map]; rfl))), ?_, ?_⟩
      · rw [sum_one, List.length_map]
        have : ("" : Str).length = 0 := by decide +kernel
        rw [this]
        omega
      · have e : (cs.map fun c => tS [c]) = (cs.map fun c => [c]).map tS := by rw [List.map_map]; rfl
        rw [e, join_tx, flat_one]
        exact q _ cs (by omega) hcm r.1 r.2
/-! ### _law_bent -/
def spBent : Sp := fun vs H Q _ => ∃ (a : Addr) (sg t : List Nat), vs = [.ref a, tx sg, tx t] ∧ Pot H a ∧ sg ≠ [] ∧ sg.length ≤ 1000 ∧ t.length ≤ 900 ∧
  ∀ (H' : Hp) (t' : List Nat), t'.length ≤ t.length + 1 → (∀ c ∈ t', c ∈ t ∨ c ∈ sg) → Pot H' a → Off a H H' → Q (tx t') H'
theorem ok_law_bent (T : All K mg) : FnOk P w K mg base CX0 3 T.f_law_bent T.d_law_bent ["_law_pot_here", "_law_signs", "_law_text_here"] spBent := by
  refine T.law_bent.F.ok sc_law_bent (fun vs H Q E h => ?_) (fun cdv A outer s H vs Q E hr h => ?_)
  · obtain ⟨a, sg, t, rfl, _⟩ := h
    rfl
  · obtain ⟨a, sg, t, rfl, hp, hs, hs2, ht, q⟩ := h
    refine ⟨_, pss_cons (ps_par rfl sc_law_bent.nd (i := 3) (j := 4) rfl rfl (by decide) rfl rfl (pa_cons (pe_call (ok_law_draw T) (hr.mono (by decide)) (by rfl) T.law_draw.g T.law_draw.F.kp T.law_draw.b .nil pass0 (pa_cons (pv 0) (pa_cons (pe_op op_add (pe_callB call_lenT (by rfl) T.b_len PySem.boot_len (pa_cons (pv 2) pa_nil)) pe_int) pa_nil)))
        (pa_cons (pe_call (ok_law_pick T) hr (by rfl) T.law_pick.g T.law_pick.F.kp T.law_pick.b .nil pass0 (pa_cons (pv 0) (pa_cons (pv 1) pa_nil))) pa_nil)) (by rfl))
      (pss_one (ps_ret (pe_call (ok_law_pick T) hr (by rfl) T.law_pick.g T.law_pick.F.kp T.law_pick.b .nil pass0 (pa_cons (pv 0) (pa_cons (pe_lst
        (pa_cons (pe_op op_addT (pe_slice sl_tx (pv 2) po_none (po_some (pv 3))) (pe_slice sl_tx (pv 2) (po_some (pe_op op_add (pv 3) pe_int)) po_none))
        (pa_cons (pe_op op_addT (pe_op op_addT (pe_slice sl_tx (pv 2) po_none (po_some (pv 3))) (pv 4)) (pe_slice sl_tx (pv 2) (po_some (pv 3)) po_none))
        (pa_cons (pe_op op_addT (pe_op op_addT (pe_slice sl_tx (pv 2) po_none (po_some (pv 3))) (pv 4)) (pe_slice sl_tx (pv 2) (po_some (pe_op op_add (pv 3) pe_int)) po_none)) pa_nil)))) pa_nil))))), ?_⟩
    have hz : t.length ≤ sizeLine := by rw [sizeLine_eq]; omega
    refine ⟨_, rfl, _, rfl, t, rfl, hz, _, _, rfl, rfl, a, t.length + 1, rfl, hp, by omega, by omega, fun H1 d hd hp1 ho1 => ?_⟩
    refine ⟨_, rfl, _, rfl, a, _, rfl, hp1, .inl ⟨sg, rfl, hs, hs2, fun H2 ch hch hp2 ho2 => ?_⟩⟩
    refine ⟨_, _, rfl, ?_⟩
    have hpre : ∀ k, (t.take k).length ≤ t.length := fun k => by rw [List.length_take]; omega
    have hsuf : ∀ k, (t.drop k).length ≤ t.length := fun k => by rw [List.length_drop]; omega
    have z1 := hpre d
    have z2 := hsuf d
    have z3 := hsuf (d + 1)
    have zc : ([ch] : List Nat).length = 1 := rfl
    have hd1 : (d : Int) + 1 = ((d + 1 : Nat) : Int) := by omega
    -- the list of three
    refine ⟨.ref a, rfl, ?_⟩
    refine ⟨tx t, rfl, _, rfl, _, rfl, t, rfl, hz, .inl ⟨rfl, d, rfl, tx t, rfl, _, rfl, _, _, rfl, rfl, _, rfl, t, rfl, hz, .inr ⟨rfl, d + 1, by rw [← hd1], _, _, rfl, rfl, by rw [sizeLine_eq]; omega, ?_⟩⟩⟩
    refine ⟨tx t, rfl, _, rfl, _, rfl, t, rfl, hz, .inl ⟨rfl, d, rfl, tx [ch], rfl, _, _, rfl, rfl, by rw [sizeLine_eq]; omega, tx t, rfl, _, rfl, _, rfl, t, rfl, hz, .inr ⟨rfl, d, rfl, _, _, rfl, rfl, by rw [sizeLine_eq, List.length_append]; omega, ?_⟩⟩⟩
    refine ⟨tx t, rfl, _, rfl, _, rfl, t, rfl, hz, .inl ⟨rfl, d, rfl, tx [ch], rfl, _, _, rfl, rfl, by rw [sizeLine_eq]; omega, tx t, rfl, _, rfl, _, _, rfl, rfl, _, rfl, t, rfl, hz, .inr ⟨rfl, d + 1, by rw [← hd1], _, _, rfl, rfl, by rw [sizeLine_eq, List.length_append]; omega, ?_⟩⟩⟩
    refine ⟨by show 3 ≤ sizeLine; decide, fun p np => ?_⟩
    refine ⟨a, _, rfl, hp2.up (hp2.ne np), .inr ⟨p, _, rfl, (hp2.ne np).symm, .inl (.inl upd_same), by simp, by show 3 ≤ 1000; decide, fun H3 v hv hp3 ho3 => ?_⟩⟩
    have hoff : Off a H H3 := ((ho1.trans ho2).trans (Off.of (same_upd np))).trans ho3
    have e1 : (t.take d).length + (t.drop d).length = t.length := by rw [List.length_take, List.length_drop]; omega
    have e2 : (t.take d).length + (t.drop (d + 1)).length ≤ t.length := by rw [List.length_take, List.length_drop]; omega
    have m1 : ∀ c ∈ t.take d, c ∈ t := fun c hc => List.mem_of_mem_take hc
    have m2 : ∀ k, ∀ c ∈ t.drop k, c ∈ t := fun k c hc => List.mem_of_mem_drop hc
    simp only [List.mem_cons, List.not_mem_nil, or_false] at hv
    rcases hv with rfl | rfl | rfl
    · refine q _ _ (by rw [List.length_append]; omega) (fun c hc => ?_) hp3 hoff
      rcases List.mem_append.mp hc with hc | hc
      · exact .inl (m1 c hc)
      · exact .inl (m2 _ c hc)
    · refine q _ _ (by rw [List.length_append, List.length_append]; omega) (fun c hc => ?_) hp3 hoff
      rcases List.mem_append.mp hc with hc | hc
      · rcases List.mem_append.mp hc with hc | hc
        · exact .inl (m1 c hc)
        · rw [List.mem_singleton.mp hc]; exact .inr hch
      · exact .inl (m2 _ c hc)
    · refine q _ _ (by rw [List.length_append, List.length_append]; omega) (fun c hc => ?_) hp3 hoff
      rcases List.mem_append.mp hc with hc | hc
      · rcases List.mem_append.mp hc with hc | hc
        · exact .inl (m1 c hc)
        · rw [List.mem_singleton.mp hc]; exact .inr hch
      · exact .inl (m2 _ c hc)
end
end Lw
namespace Lw
open PySem PySem.Spec PyProof.Rows L2 L3
theorem Small.of {t sg : List Nat} (h : ∀ c ∈ t, c ∈ sg) (hs : Small sg) (hl : t.length ≤ 1000) : Small t := ⟨fun c hc => hs.1 c (h c hc), hl⟩
theorem ne_self {x : V} : (!decide (x = x)) = false := by simp
theorem repL_one (c : Nat) : ∀ n, repL n [c] = List.replicate n c
  | 0 => rfl
  | n + 1 => by show [c] ++ repL n [c] = _; rw [repL_one c n]; rfl
theorem Pot.off {H H' : Hp} {a : Addr} (h : Pot H a) (s : Same H H') : Pot H' a ∧ Off a H H' := ⟨h.same s, .of s⟩
section
variable {P : Program} {w : World} {K : PySem.W.Frag} {mg : Str → Option Value} {base : Heap}
/-! ### _law_long_right -/
def spLong : Sp := fun vs H Q _ => ∃ (a : Addr) (sg : List Nat), vs = [.ref a, tx sg] ∧ Pot H a ∧ sg ≠ [] ∧ Small sg ∧ ∀ (H' : Hp), Pot H' a → Off a H H' → Q (.bl true) H'
theorem ok_law_long (T : All K mg) : FnOkG P w K mg base CX0 4 T.f_law_long_right T.d_law_long_right ["_law_pot_here", "_law_signs"] spLong := by
  refine okG T.law_long_right.F sc_law_long_right (fun vs H Q E h => ?_) (fun cdv A outer s H vs Q E hr hG h => ?_)
  · obtain ⟨a, sg, rfl, _⟩ := h
    rfl
  · obtain ⟨a, sg, rfl, hp, hs, hsm, q⟩ := h
    refine ⟨_, pss_cons (ps_set (i := 2) sc_law_long_right.nd rfl (.inl rfl) (pe_call (ok_law_text T) hr (by rfl) T.law_text.g T.law_text.F.kp T.law_text.b .nil pass0 (pa_cons (pv 0) (pa_cons (pv 1) (pa_cons pe_int pa_nil)))))
      (pss_cons (ps_set (i := 3) sc_law_long_right.nd rfl (.inl rfl) (pe_call (ok_law_many T) (hr.mono (by decide)) (by rfl) T.law_many.g T.law_many.F.kp T.law_many.b .nil pass0 (pa_cons (pv 2) pa_nil)))
      (pss_cons (ps_if (PW.pt (pw_or (pt_cmpR op_ne (pe_call (ok_how_many T) hr (by rfl) T.how_many_parts.g T.how_many_parts.F.kp T.how_many_parts.b .nil pass0 (pa_cons (pv 2) pa_nil)) (pv 3) (nomark _))
          (pw_or1 (pt_cmpR op_ne (pe_call (ok_how_many T) hr (by rfl) T.how_many_parts.g T.how_many_parts.F.kp T.how_many_parts.b .nil pass0 (pa_cons (pe_step (k := -1) (pv 2) (pe_un un_neg pe_int) (fun σ H Q h => ⟨1, rfl, h⟩) rfl rfl) pa_nil)) (pv 3) (nomark _)))))
        (pss_one ps_never) pss_nil)
      (pss_cons (ps_set (i := 4) sc_law_long_right.nd rfl (.inl rfl) (pe_call (ok_law_bent T) hr (by rfl) T.law_bent.g T.law_bent.F.kp T.law_bent.b .nil pass0 (pa_cons (pv 0) (pa_cons (pv 1) (pa_cons (pv 2) pa_nil)))))
      (pss_cons (ps_for PassesOwn.never rfl (pi_list (pe_lst (pa_cons (pv 4) (pa_cons (pe_step (k := 2) (pv 2) pe_int (fun σ H Q h => h) rfl rfl) (pa_cons (pe_slice sl_tx (pv 2) (po_some pe_int) po_none) (pa_cons (pe_step (k := -1) (pv 2) (pe_un un_neg pe_int) (fun σ H Q h => ⟨1, rfl, h⟩) rfl rfl) (pa_cons (pe_step (k := -1) (pv 4) (pe_un un_neg pe_int) (fun σ H Q h => ⟨1, rfl, h⟩) rfl rfl) pa_nil))))))) (pg_name (i := 5) sc_law_long_right.nd rfl (.inl rfl))
        (pss_one (ps_if (pt_cmpR op_ne
            (pe_callB (call_reprD hr hG) (by rfl) T.b_repr (by decide +kernel) (pa_cons (pe_call (ok_is_part T) hr (by rfl) T.is_part.g T.is_part.F.kp T.is_part.b .nil pass0 (pa_cons (pv 5) (pa_cons (pv 2) pa_nil))) pa_nil))
            (pe_callB (call_reprD hr hG) (by rfl) T.b_repr (by decide +kernel) (pa_cons (pe_call (ok_law_in T) (hr.mono (by decide)) (by rfl) T.law_in.g T.law_in.F.kp T.law_in.b .nil pass0 (pa_cons (pv 5) (pa_cons (pv 2) pa_nil))) pa_nil)) (nomark _))
          (pss_one ps_never) pss_nil)))
      (pss_cons (ps_set (i := 6) sc_law_long_right.nd rfl (.inl rfl) (pe_op op_mulT (pe_ix ix_tx (pv 1) pe_int (fun _ _ => rfl)) (pe_op op_add pe_int (pe_call (ok_law_draw T) (hr.mono (by decide)) (by rfl) T.law_draw.g T.law_draw.F.kp T.law_draw.b .nil pass0 (pa_cons (pv 0) (pa_cons pe_int pa_nil))))))
      (pss_one (ps_ret (pe_and (pe_cmpR op_eq (pe_call (ok_how_many T) hr (by rfl) T.how_many_parts.g T.how_many_parts.F.kp T.how_many_parts.b .nil pass0 (pa_cons (pv 6) pa_nil)) (pe_op op_add (pe_callB call_lenT (by rfl) T.b_len PySem.boot_len (pa_cons (pv 6) pa_nil)) pe_int) (by rfl))
        (pe_one (pe_call (ok_is_part T) hr (by rfl) T.is_part.g T.is_part.F.kp T.is_part.b .nil pass0 (pa_cons (pv 6) (pa_cons (pe_op op_addT (pv 6) (pv 2)) pa_nil)))))))))))), ?_⟩
    refine ⟨.ref a, rfl, tx sg, rfl, a, sg, 40, rfl, hp, hs, hsm.2, by decide, fun H1 t htl htm hp1 ho1 => ?_⟩
    have ht : Small t := .of htm hsm (by omega)
    have htr : Small t.reverse := .of (fun c hc => htm c (List.mem_reverse.mp hc)) hsm (by rw [List.length_reverse]; omega)
    refine ⟨tx t, rfl, t, rfl, ht, fun H2 s2 => ?_⟩
    have hp2 := hp1.same s2
    have ho2 : Off a H H2 := ho1.trans (.of s2)
    refine ⟨tx t, rfl, t, rfl, ht, fun H3 s3 => ?_⟩
    have hp3 := hp2.same s3
    have ho3 : Off a H H3 := ho2.trans (.of s3)
    refine ⟨_, rfl, rfl, _, rfl, ?_⟩
    rw [ne_self]
    refine iteF ?_
    refine ⟨tx t, rfl, t, rfl, small_len ht, by rw [stepL_rev, List.length_reverse]; exact small_len ht, ?_⟩
    rw [stepL_rev]
    refine ⟨t.reverse, rfl, htr, fun H4 s4 => ?_⟩
    have hp4 := hp3.same s4
    have ho4 : Off a H H4 := ho3.trans (.of s4)
    rw [M11.many_rev]
    refine ⟨_, rfl, rfl, _, rfl, ?_⟩
    rw [ne_self]
    refine iteF ?_
    -- less
    refine ⟨.ref a, rfl, tx sg, rfl, tx t, rfl, a, sg, t, rfl, hp4, hs, hsm.2, by omega, fun H5 ls hls hlm hp5 ho5 => ?_⟩
    have hlsm : ∀ c ∈ ls, c ∈ sg := fun c hc => (hlm c hc).elim (htm c) id
    have hls0 : Small ls := .of hlsm hsm (by omega)
    have ho5' : Off a H H5 := ho4.trans ho5
    refine ⟨tx ls, rfl, tx t, rfl, t, rfl, small_len ht, Nat.le_trans (stepL_two t) (small_len ht), ?_⟩
    refine ⟨tx t, rfl, _, rfl, t, rfl, small_len ht, .inr ⟨rfl, 1, rfl, ?_⟩⟩
    refine ⟨tx t, rfl, t, rfl, small_len ht, by rw [stepL_rev, List.length_reverse]; exact small_len ht, ?_⟩
    refine ⟨tx ls, rfl, ls, rfl, small_len hls0, by rw [stepL_rev, List.length_reverse]; exact small_len hls0, ?_⟩
    rw [stepL_rev, stepL_rev]
    refine ⟨by show 5 ≤ sizeLine; decide, fun D nD => ?_⟩
    have hDa : a ≠ D := hp5.ne nD
    refine ⟨D, rfl, ⟨_, .inl (.inl upd_same)⟩, ?_⟩
    have hall : ∀ l ∈ [ls, stepL t 2, t.drop 1, t.reverse, ls.reverse], Small l := by
      intro l hl
      simp only [List.mem_cons, List.not_mem_nil, or_false] at hl
      rcases hl with rfl | rfl | rfl | rfl | rfl
      · exact hls0
      · exact .of (fun c hc => htm c (stepL_mem hc)) hsm (Nat.le_trans (stepL_two t) ht.2)
      · exact .of (fun c hc => htm c (List.mem_of_mem_drop hc)) hsm (by rw [List.length_drop]; have := ht.2; omega)
      · exact htr
      · exact .of (fun c hc => hlsm c (List.mem_reverse.mp hc)) hsm (by rw [List.length_reverse]; exact hls0.2)
    refine for_list (xs := [ls, stepL t 2, t.drop 1, t.reverse, ls.reverse].map tx) (fun i σ H' => ∃ y, σ = [some (.ref a), some (tx sg), some (tx t), some (.int ((M11.subs t).length : Int)), some (tx ls), y, none] ∧ Off a H H' ∧ Pot H' a ∧ H' D = some (.lst ([ls, stepL t 2, t.drop 1, t.reverse, ls.reverse].map tx)))
      ⟨none, rfl, ho5'.up (ho5'.free nD hp5), hp5.up hDa, upd_same⟩ (fun j σ H' _ p => p.elim fun _ p => .inl (.inl p.2.2.2)) (fun j x σ H' hx p => ?_) (fun σ H' p => ?_)
    · obtain ⟨y, rfl, ho6, hp6, hD⟩ := p
      rw [List.getElem?_map] at hx
      obtain ⟨l, hl, rfl⟩ := Option.map_eq_some_iff.mp hx
      have hl0 := hall l (List.mem_of_getElem? hl)
      refine ⟨tx l, rfl, tx t, rfl, l, t, rfl, hl0, ht, fun H7 s7 => ?_⟩
      have hb := shw_bl (decide (l.Sublist t))
      refine ⟨_, _, rfl, .bl _, hb.s, hb.z, hb.p, ?_⟩
      refine ⟨tx l, rfl, tx t, rfl, l, t, rfl, small_len hl0, small_len ht, ?_⟩
      refine ⟨_, _, rfl, .bl _, hb.s, hb.z, hb.p, ?_⟩
      refine ⟨rfl, _, rfl, ?_⟩
      rw [ne_self]
      exact iteF ⟨_, rfl, ho6.trans (.of s7), hp6.same s7, s7 _ _ hD⟩
    · obtain ⟨y, rfl, ho6, hp6, hD⟩ := p
      obtain ⟨c, r, rfl⟩ : ∃ c r, sg = c :: r := by
        cases sg with
        | nil => exact absurd rfl hs
        | cons c r => exact ⟨c, r, rfl⟩
      refine ⟨_, rfl, c :: r, 0, c, rfl, rfl, small_len hsm, rfl, _, rfl, a, 300, rfl, hp6, by decide, by decide, fun H7 d hd hp7 ho7 => ?_⟩
      refine ⟨_, _, rfl, rfl, ?_⟩
      have e1 : (1 : Int) + (d : Int) = ((1 + d : Nat) : Int) := by omega
      refine ⟨[c], 1 + d, rfl, congrArg V.int e1, by omega, by simp; omega, ?_⟩
      rw [repL_one]
      have hw : Small (List.replicate (1 + d) c) := ⟨fun x hx => by rw [List.eq_of_mem_replicate hx]; exact hsm.1 c List.mem_cons_self, by rw [List.length_replicate]; omega⟩
      refine ⟨_, rfl, _, rfl, hw, fun H8 s8 => ?_⟩
      refine ⟨_, rfl, _, rfl, small_len hw, _, _, rfl, rfl, rfl, _, rfl, ?_⟩
      rw [(M11.many_rep c (1 + d)).1, List.length_replicate, show (((1 + d + 1 : Nat)) : Int) = ((1 + d : Nat) : Int) + 1 by omega, decide_eq_true rfl]
      refine iteT ?_
      have hwt : Small (List.replicate (1 + d) c ++ t) := ⟨fun x hx => by
        rcases List.mem_append.mp hx with hx | hx
        · exact hw.1 x hx
        · exact ht.1 x hx, by rw [List.length_append, List.length_replicate]; omega⟩
      refine ⟨_, rfl, _, rfl, _, rfl, _, _, rfl, rfl, by rw [sizeLine_eq, List.length_replicate]; omega, _, _, rfl, hw, hwt, fun H9 s9 => ?_⟩
      rw [decide_eq_true (List.sublist_append_left _ _)]
      exact q _ ((hp7.same s8).same s9) (((ho6.trans ho7).trans (.of s8)).trans (.of s9))
end
end Lw
namespace Lw
open PySem PySem.Spec PyProof.Rows L2 L3
theorem sorted_len (t : List Nat) : (sortT keyLen (M11.subs t)).length = (M11.subs t).length := (sortT_perm keyLen (M11.subs t)).length_eq
theorem sorted_mem {t x : List Nat} : x ∈ sortT keyLen (M11.subs t) ↔ x.Sublist t := by
  rw [(sortT_perm keyLen (M11.subs t)).mem_iff, M11.mem_subs]
theorem subs_1024 {t : List Nat} (h : t.length ≤ 10) : (M11.subs t).length ≤ 1024 := Nat.le_trans (M11.subs_len_le t) (Nat.pow_le_pow_right (by decide) h)
theorem Small.sub {x t : List Nat} (h : Small t) (s : x.Sublist t) : Small x := ⟨fun c hc => h.1 c (s.subset hc), Nat.le_trans s.length_le h.2⟩
theorem shw_parts {t : List Nat} (h : Small t) (h10 : t.length ≤ 10) : Shw (.list (dTx (sortT keyLen (M11.subs t)))) := by
  refine shw_txs (B := 10) (n := 1024) (fun l hl c hc => ?_) (fun l hl => ?_) (by rw [sorted_len]; exact subs_1024 h10) (by decide)
  · have := (h.sub (sorted_mem.mp hl)).1 c hc
    omega
  · exact Nat.le_trans (sorted_mem.mp hl).length_le h10
theorem all_id_rep (n : Nat) : (List.replicate n true).all id = true := by
  induction n with
  | zero => rfl
  | succ n ih => rw [List.replicate_succ, List.all_cons, ih]; rfl
section
variable {P : Program} {w : World} {K : PySem.W.Frag} {mg : Str → Option Value} {base : Heap}
/-! ### _law_all_right -/
def spAll (Pt : Addr) : Sp := fun vs H Q _ => ∃ t : List Nat, vs = [tx t] ∧ Small t ∧ t.length ≤ 10 ∧ LamX.Tabs (TT Pt) H ∧ ∀ H', LamX.ExtN H H' → LamX.Tabs (TT Pt) H' → Q (.bl true) H'
theorem ok_law_all (T : All K mg) {c Pt : Addr} (hcd : T.d_law_parts.code = .ref c) (TB : LamX.TabB base mg c Pt) : FnOkG P w K mg base CX0 7 T.f_law_all_right T.d_law_all_right ["_law_text_here"] (spAll Pt) := by
  refine okG T.law_all_right.F sc_law_all_right (fun vs H Q E h => ?_) (fun cdv A outer s H vs Q E hr hG h => ?_)
  · obtain ⟨t, rfl, _⟩ := h
    rfl
  · obtain ⟨t, rfl, ht, h10, hT, q⟩ := h
    refine ⟨_, pss_cons (ps_set (i := 1) sc_law_all_right.nd rfl (.inl rfl) (pe_callG (ok_law_parts T hcd TB) hr hG (by rfl) T.law_parts.g T.law_parts.F.kp T.law_parts.b pass0 (pa_cons (pv 0) pa_nil)))
      (pss_cons (ps_for PassesOwn.never rfl (pi_range1 rfl T.b_range (pa_cons pe_int pa_nil)) (pg_name (i := 2) sc_law_all_right.nd rfl (.inl rfl))
        (pss_cons (ps_set (i := 3) sc_law_all_right.nd rfl (.inl rfl) (pe_ifExp (pt_cmpR op_eq (pv 2) pe_int (nomark _))
            (pe_call (ok_parts T) hr (by rfl) T.parts.g T.parts.F.kp T.parts.b .nil pass0 (pa_cons (pv 0) pa_nil))
            (pe_callK0 (FnOkG.of (ok_parts T)) hr hG (by rfl) T.parts.g T.parts.F.kp (kb1 (n := "text") T.parts.F (fun _ _ _ _ _ _ _ => rfl)) pass0 (pk_cons (pv 0) pk_nil))))
        (pss_cons (ps_if (PW.pt (pw_or (pt_not (pt_val (pe_callB call_isi (by rfl) T.b_isinstance boot_isinstance (pa_cons (pv 3) (pa_cons (pe_bltn (v := .ty "list") (by rfl) T.b_list (by decide +kernel) rfl) pa_nil)))))
            (pw_or1 (pt_cmpR op_ne (pe_callB (call_reprD hr hG) (by rfl) T.b_repr (by decide +kernel) (pa_cons (pv 3) pa_nil)) (pe_callB (call_reprD hr hG) (by rfl) T.b_repr (by decide +kernel) (pa_cons (pv 1) pa_nil)) (nomark _)))))
          (pss_one ps_never) pss_nil)
        (pss_cons (ps_expr (pe_bm PySem.F.plainAttrs_list PySem.F.slot_list_append PySem.F.type_list_append mt_append (pv 3) (pa_cons pe_str pa_nil)))
        (pss_one (ps_expr (pe_bm0 PySem.F.plainAttrs_list PySem.F.slot_list_reverse PySem.F.type_list_reverse mt_reverse (pv 3))))))))
      (pss_cons (ps_set (i := 4) sc_law_all_right.nd rfl (.inl rfl) (pe_lst (pa_cons (pe_call (ok_how_many T) (hr.mono (by decide)) (by rfl) T.how_many_parts.g T.how_many_parts.F.kp T.how_many_parts.b .nil pass0 (pa_cons (pv 0) pa_nil))
        (pa_cons (pe_callK0 (FnOkG.of (ok_how_many T)) (hr.mono (by decide)) hG (by rfl) T.how_many_parts.g T.how_many_parts.F.kp (kb1 (n := "text") T.how_many_parts.F (fun _ _ _ _ _ _ _ => rfl)) pass0 (pk_cons (pv 0) pk_nil))
        (pa_cons (pe_call (ok_law_many T) (hr.mono (by decide)) (by rfl) T.law_many.g T.law_many.F.kp T.law_many.b .nil pass0 (pa_cons (pv 0) pa_nil)) pa_nil)))))
      (pss_one (ps_ret (pe_and (pe_cmpR op_eq (pe_callB (call_reprD hr hG) (by rfl) T.b_repr (by decide +kernel) (pa_cons (pv 4) pa_nil))
          (pe_callB (call_reprD hr hG) (by rfl) T.b_repr (by decide +kernel) (pa_cons (pe_op op_rep (pe_lst (pa_cons (pe_callB call_len_seq (by rfl) T.b_len PySem.boot_len (pa_cons (pv 1) pa_nil)) pa_nil)) pe_int) pa_nil)) (by rfl))
        (pe_one (pe_callB (cr_all rfl) (by rfl) T.b_all boot_all (pa_cons (pe_lc (own := [("_law_one", 5)]) (g := gName 5) (tt := tYes) rfl sc_law_all_right.nd (pi_list (pv 1)) (blkOk_by (own := [("_law_one", 5)]) (N := ["_law_text_here", "_law_due", "_law_turn", "_law_told", "_law_many_here", "_law_one"]) (sc := defScope s_law_all_right) (by decide +kernel))
          (fun _ _ _ _ _ => pg_name (i := 5) sc_law_all_right.nd rfl (Or.inl rfl)) (fun _ _ _ _ _ => pts_nil)
          (fun _ _ _ _ _ => pe_cmpR op_is_bl (pe_call (ok_is_part T) (hr.mono (by decide)) (by rfl) T.is_part.g T.is_part.F.kp T.is_part.b .nil pass0 (pa_cons (pv 5) (pa_cons (pv 0) pa_nil))) pe_bl (by rfl))) pa_nil)))))))), ?_⟩
    refine ⟨_, rfl, t, rfl, h10, hT, fun H1 du x1 t1 _ e1 => ?_⟩
    have hsh := shw_parts ht h10
    refine ⟨_, rfl, by decide, by decide, ?_⟩
    refine for_range (lo := 0) (n := 2) (fun i σ H' => ∃ y2 y3, σ = [some (tx t), some (.ref du), y2, y3, none, none] ∧ Same H1 H') ⟨none, none, rfl, fun _ _ h => h⟩ (fun i σ H2 hi p => ?_) (fun σ H2 p => ?_)
    · obtain ⟨y2, y3, rfl, s2⟩ := p
      refine ⟨_, rfl, rfl, _, rfl, ite2 (fun _ => ?_) (fun _ => ?_)⟩
      all_goals
        refine ⟨_, rfl, t, rfl, ht, h10, fun H3 e s3 n3 e3 => ?_⟩
        have n1 : H1 e = none := s2.free n3
        refine ⟨_, rfl, _, .ty "list", .type "list", .type "list", true, rfl, .ty _, .base (.lst e3), kit_ty (by decide +kernel), _, rfl, iteF ?_⟩
        have e1' : H3 du = some (.lst ((sortT keyLen (M11.subs t)).map tx)) := s3 _ _ (s2 _ _ e1)
        refine ⟨_, rfl, _, _, rfl, .lst (.inl (.inl e3)) (dp_txs _), hsh.s, hsh.z, hsh.p, ?_⟩
        refine ⟨_, rfl, _, _, rfl, .lst (.inl (.inl e1')) (dp_txs _), hsh.s, hsh.z, hsh.p, ?_⟩
        refine ⟨rfl, _, rfl, ?_⟩
        rw [ne_self]
        refine iteF ?_
        refine ⟨_, rfl, .inl ⟨rfl, _, .inl (.inl e3)⟩, _, _, _, rfl, rfl, e3, ?_, ?_⟩
        · rw [List.length_map, sorted_len, sizeLine_eq]
          have := subs_1024 h10
          omega
        refine ⟨_, rfl, .inl ⟨rfl, _, .inl (.inl upd_same)⟩, _, _, rfl, rfl, upd_same, ?_⟩
        exact ⟨_, _, rfl, same_up (same_up (s2.trans s3) n1) n1⟩
    · obtain ⟨y2, y3, rfl, s2⟩ := p
      refine ⟨_, rfl, t, rfl, ht, fun H3 s3 => ?_⟩
      refine ⟨_, rfl, t, rfl, ht, fun H4 s4 => ?_⟩
      refine ⟨_, rfl, t, rfl, ht, fun H5 s5 => ?_⟩
      refine ⟨by show 3 ≤ sizeLine; decide, fun m nm => ?_⟩
      have s5' : Same H1 H5 := ((s2.trans s3).trans s4).trans s5
      have nm1 : H1 m = none := s5'.free nm
      have hsi : Shw (.list ([((M11.subs t).length : Int), ((M11.subs t).length : Int), ((M11.subs t).length : Int)].map PyData.int)) := shw_ints _ (by show 3 ≤ 1000; decide) (by
        intro n hn
        simp only [List.mem_cons, List.not_mem_nil, or_false] at hn
        have := subs_1024 h10
        rcases hn with rfl | rfl | rfl <;> omega)
      refine ⟨_, rfl, _, _, rfl, .lst (.inl (.inl upd_same)) (dp_ints [((M11.subs t).length : Int), ((M11.subs t).length : Int), ((M11.subs t).length : Int)]), hsi.s, hsi.z, hsi.p, ?_⟩
      have hdu : ∀ o, (upd H5 m o) du = some (.lst ((sortT keyLen (M11.subs t)).map tx)) := fun o => by
        rw [upd_ne (ne_of_none e1 nm1)]
        exact s5' _ _ e1
      refine ⟨_, rfl, du, _, rfl, .inl (.inl (.inl (hdu _))), ?_⟩
      rw [List.length_map, sorted_len]
      refine ⟨by show 1 ≤ sizeLine; decide, fun m2 nm2 => ?_⟩
      refine ⟨m2, 3, _, rfl, rfl, upd_same, by decide, by decide, by show 3 ≤ sizeLine; decide, fun m3 nm3 => ?_⟩
      refine ⟨_, _, rfl, .lst (.inl (.inl upd_same)) (dp_ints [((M11.subs t).length : Int), ((M11.subs t).length : Int), ((M11.subs t).length : Int)]), hsi.s, hsi.z, hsi.p, ?_⟩
      refine ⟨rfl, _, rfl, ?_⟩
      rw [decide_eq_true rfl]
      refine iteT ?_
      have s6 : ∀ o, Same H1 (upd _ m3 o) := fun o => s5'.trans (((same_upd nm).trans (same_upd nm2)).trans (same_upd nm3))
      have hdu6 := fun o => s6 o _ _ e1
      refine ⟨_, rfl, du, rfl, ⟨_, .inl (.inl (hdu6 _))⟩, fun D nD => ?_⟩
      have nD1 := (s6 _).free nD
      refine lc_gen (walk_list (xs := (sortT keyLen (M11.subs t)).map tx)) (Same H1) (fun i acc => acc = List.replicate i (.bl true)) ?_ (fun i acc e => by rw [e]; simp) rfl (same_up (s6 _) nD1) (fun _ _ h => same_up h nD1) (fun _ h => .inl (.inl (h _ _ e1))) (fun i x H7 H8 acc C N hi r hD ha y c n => ?_) (fun H7 xs r hD ha => ?_)
      · rw [List.length_map, sorted_len, sizeLine_eq]
        have := subs_1024 h10
        omega
      · obtain ⟨rfl, y⟩ := y
        rw [List.getElem?_map] at y
        obtain ⟨l, hl, rfl⟩ := Option.map_eq_some_iff.mp y
        have hls := sorted_mem.mp (List.mem_of_getElem? hl)
        refine ⟨rfl, yes_te ?_⟩
        refine ⟨_, rfl, _, rfl, l, t, rfl, ht.sub hls, ht, fun H9 s9 => ?_⟩
        rw [decide_eq_true hls]
        refine ⟨true, true, rfl, rfl, c _ _ (r.trans s9) (s9 _ _ hD) ?_⟩
        rw [ha, List.replicate_succ']
        rfl
      · subst ha
        refine ⟨D, List.replicate _ true, rfl, .inl (.inl (by rw [hD, List.map_replicate])), ?_⟩
        rw [all_id_rep]
        exact q _ (x1.trans (.of r)) (t1.ext r)
end
end Lw
namespace L3
open PySem PySem.Spec PyProof.Rows L2
/-- an if whose test comes out false -/
theorem if_no {tc : TT} {t u : TS} {D : Ends} {σ : L2.St} {H : Hp} (R : Hp → Prop) (hc : ∀ Q : Bool → Hp → Prop, (∀ H1, R H1 → Q false H1) → tc σ H Q) (k : ∀ H1, R H1 → u D σ H1) : tIfS tc t u D σ H :=
  hc _ fun H1 r => iteF (k H1 r)
theorem next_to {D : Ends} {σ : L2.St} {H : Hp} (h : D.nx σ H) : tNext D σ H := h
theorem seq_to {t u : TS} {D : Ends} {σ : L2.St} {H : Hp} (h : t { D with nx := u D } σ H) : tSeq t u D σ H := h
theorem inV_tx (l : List Nat) (ls : List (List Nat)) : inV (tx l) (ls.map tx) = decide (l ∈ ls) := by
  unfold inV
  rw [List.any_map, Bool.eq_iff_iff, List.any_eq_true, decide_eq_true_iff]
  constructor
  · rintro ⟨x, hx, e⟩
    have e2 : (tS x == tS l) = true := e
    have e3 : tS x = tS l := by simpa using e2
    have e4 : x = l := by
      have := congrArg (fun z : Str => z.cps.toList) e3
      simpa [tS] using this
    rw [← e4]; exact hx
  · intro h
    refine ⟨l, h, ?_⟩
    show (tS l == tS l) = true
    simp
theorem flat_txs (ls : List (List Nat)) : (ls.map tx).all flatV = true := by
  induction ls with
  | nil => rfl
  | cons l ls ih => rw [List.map_cons, List.all_cons, ih]; rfl
end L3
namespace Lw
open PySem PySem.Spec PyProof.Rows L2 L3
/-- all but a and the tables stays -/
def OffN (a : Addr) (H H' : Hp) : Prop := ∀ b o, H b = some o → (∀ ps, o ≠ .tbl ps) → b ≠ a → H' b = some o
theorem OffN.trans {a : Addr} {H H1 H2 : Hp} (x : OffN a H H1) (y : OffN a H1 H2) : OffN a H H2 := fun b o e t n => y b o (x b o e t n) t n
theorem OffN.ext {a : Addr} {H H' : Hp} (x : LamX.ExtN H H') : OffN a H H' := fun b o e t _ => x b o e t
theorem OffN.off {a : Addr} {H H' : Hp} (x : Off a H H') : OffN a H H' := fun b o e _ n => x b o e n
theorem OffN.of {a : Addr} {H H' : Hp} (x : Same H H') : OffN a H H' := fun b o e _ _ => x b o e
theorem Pot.ext {a : Addr} {H H' : Hp} (h : Pot H a) (x : LamX.ExtN H H') : Pot H' a := by
  obtain ⟨u, v, e, r⟩ := h
  exact ⟨u, v, x _ _ e (fun ps z => by cases z), r⟩
theorem tabs_off {a : Addr} {Pt : Addr} {H H' : Hp} (t : LamX.Tabs (TT Pt) H) (hp : Pot H a) (o : Off a H H') : LamX.Tabs (TT Pt) H' := by
  obtain ⟨u, v, ea, _⟩ := hp
  intro p hpm
  obtain ⟨ps, h1, h2, h3⟩ := t p hpm
  refine ⟨ps, o _ _ h1 fun z => ?_, h2, fun pos cv hc => ?_⟩
  · rw [z, ea] at h1
    cases h1
  · obtain ⟨c, e1, e2⟩ := h3 pos cv hc
    refine ⟨c, e1, o _ _ e2 fun z => ?_⟩
    rw [z, ea] at e2
    cases e2
structure TwoR (Pt a D p1 p2 p3 p4 : Addr) (u v : List Nat) (H H' : Hp) : Prop where
  pot : Pot H' a
  off : OffN a H H'
  tabs : LamX.Tabs (TT Pt) H'
  d : H' D = some (.lst [.ref p1, .ref p2, .ref p3, .ref p4])
  e1 : H' p1 = some (.tup [tx u, tx v])
  e2 : H' p2 = some (.tup [tx v, tx u])
  e3 : H' p3 = some (.tup [tx u, tx u])
  e4 : H' p4 = some (.tup [tx [], tx u])
theorem TwoR.ext {Pt a D p1 p2 p3 p4 : Addr} {u v : List Nat} {H H' H2 : Hp} (x : TwoR Pt a D p1 p2 p3 p4 u v H H') (e : LamX.ExtN H' H2) (t : LamX.Tabs (TT Pt) H2) : TwoR Pt a D p1 p2 p3 p4 u v H H2 :=
  ⟨x.pot.ext e, x.off.trans (.ext e), t, e _ _ x.d (fun ps z => by cases z), e _ _ x.e1 (fun ps z => by cases z), e _ _ x.e2 (fun ps z => by cases z), e _ _ x.e3 (fun ps z => by cases z), e _ _ x.e4 (fun ps z => by cases z)⟩
theorem TwoR.same {Pt a D p1 p2 p3 p4 : Addr} {u v : List Nat} {H H' H2 : Hp} (x : TwoR Pt a D p1 p2 p3 p4 u v H H') (e : Same H' H2) : TwoR Pt a D p1 p2 p3 p4 u v H H2 := x.ext (.of e) (x.tabs.ext e)
theorem TwoR.at {Pt a D p1 p2 p3 p4 : Addr} {u v : List Nat} {H H' : Hp} (r : TwoR Pt a D p1 p2 p3 p4 u v H H') (hu : Small u) (hv : Small v) (hul : u.length ≤ 100) (hvl : v.length ≤ 100) {i : Nat} {x : V} (h : [V.ref p1, .ref p2, .ref p3, .ref p4][i]? = some x) :
    ∃ p y z, x = .ref p ∧ H' p = some (.tup [tx y, tx z]) ∧ Small y ∧ Small z ∧ y.length ≤ 100 ∧ z.length ≤ 100 := by
  have hm := List.mem_of_getElem? h
  simp only [List.mem_cons, List.not_mem_nil, or_false] at hm
  rcases hm with rfl | rfl | rfl | rfl
  · exact ⟨_, _, _, rfl, r.e1, hu, hv, hul, hvl⟩
  · exact ⟨_, _, _, rfl, r.e2, hv, hu, hvl, hul⟩
  · exact ⟨_, _, _, rfl, r.e3, hu, hu, hul, hul⟩
  · exact ⟨_, _, _, rfl, r.e4, ⟨fun c hc => by simp at hc, by simp⟩, hu, by simp, hul⟩
theorem Small.app {u v : List Nat} (hu : Small u) (hv : Small v) (h : u.length + v.length ≤ 1000) : Small (u ++ v) := ⟨fun x hx => by
  rcases List.mem_append.mp hx with hx | hx
  · exact hu.1 x hx
  · exact hv.1 x hx, by rw [List.length_append]; exact h⟩
section
variable {P : Program} {w : World} {K : PySem.W.Frag} {mg : Str → Option Value} {base : Heap}
/-! ### _law_two_right -/
def spTwo (Pt : Addr) : Sp := fun vs H Q _ => ∃ (a : Addr) (sg u v : List Nat), vs = [.ref a, tx sg, tx u, tx v] ∧ Pot H a ∧ sg ≠ [] ∧ Small sg ∧ Small u ∧ Small v ∧ u.length ≤ 100 ∧ v.length ≤ 100 ∧ LamX.Tabs (TT Pt) H ∧ ∀ H', Pot H' a → OffN a H H' → LamX.Tabs (TT Pt) H' → Q (.bl true) H'
theorem ok_law_two (T : All K mg) {c Pt : Addr} (hcd : T.d_law_parts.code = .ref c) (TB : LamX.TabB base mg c Pt) : FnOkG P w K mg base CX0 7 T.f_law_two_right T.d_law_two_right ["_law_pot_here", "_law_signs", "_law_one", "_law_other"] (spTwo Pt) := by
  refine okG T.law_two_right.F sc_law_two_right (fun vs H Q E h => ?_) (fun cdv A outer s H vs Q E hr hG h => ?_)
  · obtain ⟨a, sg, u, v, rfl, _⟩ := h
    rfl
  · obtain ⟨a, sg, u, v, rfl, hp, hs, hsm, hu, hv, hul, hvl, hT, q⟩ := h
    refine ⟨_, pss_cons (ps_for PassesOwn.never rfl (pi_list (pe_lst (pa_cons (pe_tup (pa_cons (pv 2) (pa_cons (pv 3) pa_nil))) (pa_cons (pe_tup (pa_cons (pv 3) (pa_cons (pv 2) pa_nil))) (pa_cons (pe_tup (pa_cons (pv 2) (pa_cons (pv 2) pa_nil))) (pa_cons (pe_tup (pa_cons pe_str (pa_cons (pv 2) pa_nil))) pa_nil)))))) (pg_tup rfl (pgs_cons (pg_name (i := 4) sc_law_two_right.nd rfl (.inl rfl)) (pgs_cons (pg_name (i := 5) sc_law_two_right.nd rfl (.inl rfl)) pgs_nil)))
        (pss_cons (ps_set (i := 6) sc_law_two_right.nd rfl (.inl rfl) (pe_call (ok_law_in T) (hr.mono (by decide)) (by rfl) T.law_in.g T.law_in.F.kp T.law_in.b .nil pass0 (pa_cons (pv 4) (pa_cons (pv 5) pa_nil))))
        (pss_cons (ps_set (i := 7) sc_law_two_right.nd rfl (.inl rfl) (pe_lst (pa_cons (pe_call (ok_is_part T) (hr.mono (by decide)) (by rfl) T.is_part.g T.is_part.F.kp T.is_part.b .nil pass0 (pa_cons (pv 4) (pa_cons (pv 5) pa_nil)))
          (pa_cons (pe_callK0 (FnOkG.of (ok_is_part T)) (hr.mono (by decide)) hG (by rfl) T.is_part.g T.is_part.F.kp (kb2 (n := "text") (m := "whole") T.is_part.F (fun _ _ _ _ _ _ _ _ => rfl)) pass0 (pk_cons (pv 5) (pk_cons (pv 4) pk_nil))) pa_nil))))
        (pss_cons (ps_if (pt_cmpR op_ne (pe_callB (call_reprD hr hG) (by rfl) T.b_repr (by decide +kernel) (pa_cons (pv 7) pa_nil)) (pe_callB (call_reprD hr hG) (by rfl) T.b_repr (by decide +kernel) (pa_cons (pe_lst (pa_cons (pv 6) (pa_cons (pv 6) pa_nil))) pa_nil)) (nomark _))
          (pss_one ps_never) pss_nil)
        (pss_one (ps_if (PW.pt (pw_and (pt_cmpR op_lt (pe_callB call_lenT (by rfl) T.b_len PySem.boot_len (pa_cons (pv 5) pa_nil)) pe_int (nomark _))
            (pw_and1 (pt_cmpR op_ne (pv 6) (pe_cmpR op_in_seq (pv 4) (pe_callG (ok_law_parts T hcd TB) hr hG (by rfl) T.law_parts.g T.law_parts.F.kp T.law_parts.b pass0 (pa_cons (pv 5) pa_nil)) (by rfl)) (nomark _)))))
          (pss_one ps_never) pss_nil))))))
      (pss_cons (ps_set (i := 8) sc_law_two_right.nd rfl (.inl rfl) (pe_call (ok_law_bent T) (hr.mono (by decide)) (by rfl) T.law_bent.g T.law_bent.F.kp T.law_bent.b .nil pass0 (pa_cons (pv 0) (pa_cons (pv 1) (pa_cons (pv 3) pa_nil)))))
      (pss_cons (ps_if (PW.pt (pw_and (pt_val (pe_call (ok_is_part T) (hr.mono (by decide)) (by rfl) T.is_part.g T.is_part.F.kp T.is_part.b .nil pass0 (pa_cons (pv 2) (pa_cons (pv 3) pa_nil))))
          (pw_and (pt_val (pe_call (ok_is_part T) (hr.mono (by decide)) (by rfl) T.is_part.g T.is_part.F.kp T.is_part.b .nil pass0 (pa_cons (pv 3) (pa_cons (pv 8) pa_nil))))
          (pw_and1 (pt_not (pt_val (pe_call (ok_is_part T) (hr.mono (by decide)) (by rfl) T.is_part.g T.is_part.F.kp T.is_part.b .nil pass0 (pa_cons (pv 2) (pa_cons (pv 8) pa_nil)))))))))
        (pss_one ps_never) pss_nil)
      (pss_cons (ps_if (PW.pt (pw_and (pt_val (pe_call (ok_is_part T) (hr.mono (by decide)) (by rfl) T.is_part.g T.is_part.F.kp T.is_part.b .nil pass0 (pa_cons (pv 2) (pa_cons (pv 3) pa_nil))))
          (pw_and (pt_val (pe_call (ok_is_part T) (hr.mono (by decide)) (by rfl) T.is_part.g T.is_part.F.kp T.is_part.b .nil pass0 (pa_cons (pv 3) (pa_cons (pv 2) pa_nil))))
          (pw_and1 (pt_cmpR op_ne (pv 2) (pv 3) (nomark _))))))
        (pss_one ps_never) pss_nil)
      (pss_one (ps_ret (pe_and (pe_cmpR op_eq (pe_call (ok_is_part T) (hr.mono (by decide)) (by rfl) T.is_part.g T.is_part.F.kp T.is_part.b .nil pass0 (pa_cons (pv 2) (pa_cons (pe_op op_addT (pv 3) (pv 8)) pa_nil)))
          (pe_call (ok_law_in T) (hr.mono (by decide)) (by rfl) T.law_in.g T.law_in.F.kp T.law_in.b .nil pass0 (pa_cons (pv 2) (pa_cons (pe_op op_addT (pv 3) (pv 8)) pa_nil))) (by rfl))
        (pe_one (pe_call (ok_is_part T) (hr.mono (by decide)) (by rfl) T.is_part.g T.is_part.F.kp T.is_part.b .nil pass0 (pa_cons (pv 2) (pa_cons (pe_op op_addT (pv 2) (pv 8)) pa_nil)))))))))), ?_⟩
    -- the list of pairs
    refine ⟨_, rfl, _, rfl, by show 2 ≤ sizeLine; decide, fun p1 n1 => ?_⟩
    refine ⟨_, rfl, _, rfl, by show 2 ≤ sizeLine; decide, fun p2 n2 => ?_⟩
    refine ⟨_, rfl, _, rfl, by show 2 ≤ sizeLine; decide, fun p3 n3 => ?_⟩
    refine ⟨_, rfl, by show 2 ≤ sizeLine; decide, fun p4 n4 => ?_⟩
    refine ⟨by show 4 ≤ sizeLine; decide, fun D nD => ?_⟩
    refine ⟨D, rfl, ⟨_, .inl (.inl upd_same)⟩, ?_⟩
    have sD := fun o => ((((same_upd n1).trans (same_upd n2)).trans (same_upd n3)).trans (same_upd n4)).trans (same_upd (o := o) nD)
    refine for_list (xs := [.ref p1, .ref p2, .ref p3, .ref p4]) (fun i σ H' => ∃ y4 y5 y6 y7, σ = [some (.ref a), some (tx sg), some (tx u), some (tx v), y4, y5, y6, y7, none] ∧ TwoR Pt a D p1 p2 p3 p4 u v H H')
      ⟨none, none, none, none, rfl, hp.same (sD _), .of (sD _), hT.ext (sD _), upd_same, same_upd nD _ _ (same_upd n4 _ _ (same_upd n3 _ _ (same_upd n2 _ _ upd_same))), same_upd nD _ _ (same_upd n4 _ _ (same_upd n3 _ _ upd_same)), same_upd nD _ _ (same_upd n4 _ _ upd_same), same_upd nD _ _ upd_same⟩
      (fun j σ H' _ p => by obtain ⟨_, _, _, _, _, r⟩ := p; exact .inl (.inl r.d)) (fun j x σ H2 hx p => ?_) (fun σ H2 p => ?_)
    · obtain ⟨y4, y5, y6, y7, rfl, r⟩ := p
      obtain ⟨p, y, z, rfl, ep, hy, hz, hyl, hzl⟩ := r.at hu hv hul hvl hx
      refine ⟨p, _, rfl, .inl (.inl ep), rfl, _, _, rfl, _, _, rfl, rfl, ?_⟩
      refine ⟨_, rfl, _, rfl, y, z, rfl, small_len hy, small_len hz, ?_⟩
      refine ⟨_, rfl, _, rfl, y, z, rfl, hy, hz, fun H3 s3 => ?_⟩
      refine ⟨_, rfl, _, rfl, y, z, rfl, hy, hz, fun H4 s4 => ?_⟩
      refine ⟨by show 2 ≤ sizeLine; decide, fun m nm => ?_⟩
      have hsb := shw_bls [decide (y.Sublist z), decide (y.Sublist z)] (by show 2 ≤ 1000; decide)
      refine ⟨_, rfl, _, _, rfl, .lst (.inl (.inl upd_same)) (dp_bls [decide (y.Sublist z), decide (y.Sublist z)]), hsb.s, hsb.z, hsb.p, ?_⟩
      refine ⟨_, rfl, _, rfl, by show 2 ≤ sizeLine; decide, fun m2 nm2 => ?_⟩
      refine ⟨_, _, rfl, .lst (.inl (.inl upd_same)) (dp_bls [decide (y.Sublist z), decide (y.Sublist z)]), hsb.s, hsb.z, hsb.p, ?_⟩
      refine ⟨rfl, _, rfl, ?_⟩
      rw [ne_self]
      refine iteF ?_
      have r5 := fun o => (((r.same s3).same s4).same (same_upd nm)).same (same_upd (o := o) nm2)
      dsimp only [tNext]
      refine if_no (TwoR Pt a D p1 p2 p3 p4 u v H) (fun Q hQ => ?_) (fun H6 r6 => ⟨_, _, _, _, rfl, r6⟩)
      refine ⟨_, rfl, z, rfl, small_len hz, _, _, rfl, rfl, _, rfl, ite2 (fun e => ?_) (fun e => hQ _ (r5 _))⟩
      have hz10 : z.length ≤ 10 := by
        have := of_decide_eq_true e
        omega
      refine ⟨_, rfl, _, rfl, _, rfl, z, rfl, hz10, (r5 _).tabs, fun H6 pp x6 t6 _ e6 => ?_⟩
      refine ⟨pp, _, rfl, .inl (.inl (.inl e6)), rfl, flat_txs _, rfl, _, rfl, ?_⟩
      show Q (!decide (V.bl (decide (y.Sublist z)) = V.bl (inV (tx y) ((sortT keyLen (M11.subs z)).map tx)))) H6
      rw [inV_tx, decide_eq_decide.mpr (sorted_mem (t := z) (x := y)), ne_self]
      exact hQ _ ((r5 _).ext x6 t6)
    · obtain ⟨y4, y5, y6, y7, rfl, r⟩ := p
      refine ⟨_, rfl, _, rfl, _, rfl, a, sg, v, rfl, r.pot, hs, hsm.2, by omega, fun H3 nr hnl hnm hp3 ho3 => ?_⟩
      have hn : Small nr := ⟨fun c hc => (hnm c hc).elim (hv.1 c) (hsm.1 c), by omega⟩
      have hT3 := tabs_off r.tabs r.pot ho3
      have hf3 : OffN a H H3 := r.off.trans (.off ho3)
      dsimp only [gName]
      refine seq_to ?_
      refine if_no (Same H3) (fun Q hQ => ?_) (fun H4 s4 => ?_)
      · refine ⟨_, rfl, _, rfl, u, v, rfl, hu, hv, fun H4 s4 => ⟨_, rfl, ite2 (fun e => ?_) (fun e => hQ _ s4)⟩⟩
        refine ⟨_, rfl, _, rfl, v, nr, rfl, hv, hn, fun H5 s5 => ⟨_, rfl, ite2 (fun e2 => ?_) (fun e => hQ _ (s4.trans s5))⟩⟩
        refine ⟨_, rfl, _, rfl, u, nr, rfl, hu, hn, fun H6 s6 => ⟨_, rfl, ?_⟩⟩
        rw [decide_eq_true ((of_decide_eq_true e).trans (of_decide_eq_true e2))]
        exact hQ _ ((s4.trans s5).trans s6)
      dsimp only [tNext]
      refine seq_to ?_
      refine if_no (Same H3) (fun Q hQ => ?_) (fun H5 s5 => ?_)
      · refine ⟨_, rfl, _, rfl, u, v, rfl, hu, hv, fun H5 s5 => ⟨_, rfl, ite2 (fun e => ?_) (fun e => hQ _ (s4.trans s5))⟩⟩
        refine ⟨_, rfl, _, rfl, v, u, rfl, hv, hu, fun H6 s6 => ⟨_, rfl, ite2 (fun e2 => ?_) (fun e => hQ _ ((s4.trans s5).trans s6))⟩⟩
        have euv : u = v := (of_decide_eq_true e).eq_of_length_le (of_decide_eq_true e2).length_le
        refine ⟨_, rfl, _, rfl, rfl, _, rfl, ?_⟩
        rw [euv, ne_self]
        exact hQ _ ((s4.trans s5).trans s6)
      have hvn : Small (v ++ nr) := hv.app hn (by omega)
      have hun : Small (u ++ nr) := hu.app hn (by omega)
      refine ⟨_, rfl, _, rfl, _, rfl, v, nr, rfl, rfl, by rw [sizeLine_eq]; omega, u, v ++ nr, rfl, hu, hvn, fun H6 s6 => ?_⟩
      refine ⟨_, rfl, _, rfl, _, rfl, v, nr, rfl, rfl, by rw [sizeLine_eq]; omega, u, v ++ nr, rfl, small_len hu, small_len hvn, ?_⟩
      refine ⟨rfl, _, rfl, ?_⟩
      rw [decide_eq_true rfl]
      refine iteT ?_
      refine ⟨_, rfl, _, rfl, _, rfl, u, nr, rfl, rfl, by rw [sizeLine_eq]; omega, u, u ++ nr, rfl, hu, hun, fun H7 s7 => ?_⟩
      rw [decide_eq_true (List.sublist_append_left _ _)]
      have sA := (s5.trans s6).trans s7
      exact q _ (hp3.same sA) (hf3.trans (.of sA)) (hT3.ext sA)
end
end Lw
namespace Lw
open PySem PySem.Spec PyProof.Rows L2 L3
theorem tabs_lst {L Pt : Addr} {xs : List V} {H H' : Hp} (t : LamX.Tabs (TT Pt) H) (ea : H L = some (.lst xs)) (o : Off L H H') : LamX.Tabs (TT Pt) H' := by
  intro p hpm
  obtain ⟨ps, h1, h2, h3⟩ := t p hpm
  refine ⟨ps, o _ _ h1 fun z => ?_, h2, fun pos cv hc => ?_⟩
  · rw [z, ea] at h1
    cases h1
  · obtain ⟨c, e1, e2⟩ := h3 pos cv hc
    refine ⟨c, e1, o _ _ e2 fun z => ?_⟩
    rw [z, ea] at e2
    cases e2
structure Rt (Pt a : Addr) (H H' : Hp) : Prop where
  pot : Pot H' a
  off : OffN a H H'
  tabs : LamX.Tabs (TT Pt) H'
theorem Rt.ext {Pt a : Addr} {H H' H2 : Hp} (x : Rt Pt a H H') (e : LamX.ExtN H' H2) (t : LamX.Tabs (TT Pt) H2) : Rt Pt a H H2 := ⟨x.pot.ext e, x.off.trans (.ext e), t⟩
theorem Rt.same {Pt a : Addr} {H H' H2 : Hp} (x : Rt Pt a H H') (e : Same H' H2) : Rt Pt a H H2 := x.ext (.of e) (x.tabs.ext e)
theorem Rt.to {Pt a : Addr} {H H' H2 : Hp} (x : Rt Pt a H H') (p : Pot H2 a) (o : Off a H' H2) : Rt Pt a H H2 := ⟨p, x.off.trans (.off o), tabs_off x.tabs x.pot o⟩
theorem Rt.toN {Pt a : Addr} {H H' H2 : Hp} (x : Rt Pt a H H') (p : Pot H2 a) (o : OffN a H' H2) (t : LamX.Tabs (TT Pt) H2) : Rt Pt a H H2 := ⟨p, x.off.trans o, t⟩
theorem Rt.put {Pt a L : Addr} {xs : List V} {o : HO} {H H' : Hp} (x : Rt Pt a H H') (hL : H' L = some (.lst xs)) (n : H L = none) (na : a ≠ L) : Rt Pt a H (upd H' L o) :=
  ⟨x.pot.up na, fun b u e t nb => by rw [upd_ne (ne_of_none e n)]; exact x.off b u e t nb, tabs_lst x.tabs hL (Off.at (Off.refl _ _))⟩
theorem Rt.free {Pt a L : Addr} {H H' : Hp} (x : Rt Pt a H H') (h : H' L = none) (hn : ∀ ps, H L ≠ some (.tbl ps)) : H L = none := by
  cases q : H L with
  | none => rfl
  | some o =>
    by_cases e : L = a
    · subst e
      exact absurd h x.pot.some
    · have := x.off L o q (fun ps z => hn ps (by rw [q, z])) e
      rw [h] at this
      cases this
theorem seqIx {d n : Nat} (h : d < n) : seqIndex? (d : Int) n = some d := by
  unfold seqIndex?
  have h0 : ¬ ((d : Int) < 0) := by omega
  simp only [h0, if_false]
  rw [if_pos (by simp; omega)]
  simp
theorem erase_map {α β : Type} (f : α → β) : ∀ (l : List α) (k : Nat), (l.map f).eraseIdx k = (l.eraseIdx k).map f
  | [], _ => rfl
  | x :: l, 0 => rfl
  | x :: l, k + 1 => by
    show f x :: (l.map f).eraseIdx k = f x :: (l.eraseIdx k).map f
    rw [erase_map f l k]
theorem sort_nil : sortT keyLen (M11.subs []) = [[]] := by
  have h := sortT_perm keyLen (M11.subs [])
  exact List.perm_singleton.mp h
theorem sg_lit {v : V} (h : v ∈ [V.str "a", .str "ab", .str "ba", .str "xyz", .str "abc", .str "cabz"]) : ∃ sg, v = tx sg ∧ sg ≠ [] ∧ Small sg := by
  have sm : ∀ l : List Nat, (l.all fun c => decide (97 ≤ c ∧ c ≤ 122)) = true → l.length ≤ 1000 → Small l := fun l h1 h2 => ⟨fun c hc => by simpa using List.all_eq_true.mp h1 c hc, h2⟩
  simp only [List.mem_cons, List.not_mem_nil, or_false] at h
  rcases h with rfl | rfl | rfl | rfl | rfl | rfl
  · exact ⟨[97], rfl, by decide, sm _ rfl (by decide)⟩
  · exact ⟨[97, 98], rfl, by decide, sm _ rfl (by decide)⟩
  · exact ⟨[98, 97], rfl, by decide, sm _ rfl (by decide)⟩
  · exact ⟨[120, 121, 122], rfl, by decide, sm _ rfl (by decide)⟩
  · exact ⟨[97, 98, 99], rfl, by decide, sm _ rfl (by decide)⟩
  · exact ⟨[99, 97, 98, 122], rfl, by decide, sm _ rfl (by decide)⟩
section
variable {P : Program} {w : World} {K : PySem.W.Frag} {mg : Str → Option Value} {base : Heap}
/-! ### _law_right -/
def spRight (Pt : Addr) : Sp := fun vs H Q _ => ∃ a : Addr, vs = [.ref a] ∧ Pot H a ∧ LamX.Tabs (TT Pt) H ∧ ∀ H', Rt Pt a H H' → Q (.bl true) H'
theorem ok_law_right (T : All K mg) {c Pt : Addr} (hcd : T.d_law_parts.code = .ref c) (TB : LamX.TabB base mg c Pt) : FnOkG P w K mg base CX0 8 T.f_law_right T.d_law_right ["_law_pot_here"] (spRight Pt) := by
  refine okG T.law_right.F sc_law_right (fun vs H Q E h => ?_) (fun cdv A outer s H vs Q E hr hG h => ?_)
  · obtain ⟨a, rfl, _⟩ := h
    rfl
  · obtain ⟨a, rfl, hp, hT, q⟩ := h
    have hu : (A.deeper (envOfC "_law_right" (defScope s_law_right) s.heap.objs.size T.f_law_right cdv)).units + 64 < cLine := by have := hr.units; omega
    refine ⟨_, pss_cons (ps_set (i := 1) sc_law_right.nd rfl (.inl rfl) (pe_call (ok_law_pick T) (hr.mono (by decide)) (by rfl) T.law_pick.g T.law_pick.F.kp T.law_pick.b .nil pass0 (pa_cons (pv 0) (pa_cons (pe_lst (pa_cons pe_str (pa_cons pe_str (pa_cons pe_str (pa_cons pe_str (pa_cons pe_str (pa_cons pe_str pa_nil))))))) pa_nil))))
      (pss_cons (ps_for PassesOwn.never rfl (pi_range1 rfl T.b_range (pa_cons pe_int pa_nil)) (pg_name (i := 2) sc_law_right.nd rfl (.inl rfl))
        (pss_cons (ps_set (i := 3) sc_law_right.nd rfl (.inl rfl) (pe_call (ok_law_text T) (hr.mono (by decide)) (by rfl) T.law_text.g T.law_text.F.kp T.law_text.b .nil pass0 (pa_cons (pv 0) (pa_cons (pv 1) (pa_cons (pe_ifExp (pt_cmpR op_lt (pv 2) pe_int (nomark _)) pe_int pe_int) pa_nil)))))
        (pss_cons (ps_set (i := 4) sc_law_right.nd rfl (.inl rfl) (pe_ifExp (pt_cmpR op_eq (pe_op op_mod (pe_callTy call_int1 (by rfl) T.b_int PyProof.Rows.boot_int (pa_cons (pv 2) pa_nil)) pe_int) pe_int (nomark _))
          (pe_call (ok_law_bent T) (hr.mono (by decide)) (by rfl) T.law_bent.g T.law_bent.F.kp T.law_bent.b .nil pass0 (pa_cons (pv 0) (pa_cons (pv 1) (pa_cons (pv 3) pa_nil))))
          (pe_call (ok_law_text T) (hr.mono (by decide)) (by rfl) T.law_text.g T.law_text.F.kp T.law_text.b .nil pass0 (pa_cons (pv 0) (pa_cons (pv 1) (pa_cons pe_int pa_nil))))))
        (pss_one (ps_if (PW.pt (pw_or (pt_not (pt_val (pe_callG (ok_law_all T hcd TB) hr hG (by rfl) T.law_all_right.g T.law_all_right.F.kp T.law_all_right.b pass0 (pa_cons (pv 3) pa_nil))))
            (pw_or1 (pt_not (pt_val (pe_callG (ok_law_two T hcd TB) hr hG (by rfl) T.law_two_right.g T.law_two_right.F.kp T.law_two_right.b pass0 (pa_cons (pv 0) (pa_cons (pv 1) (pa_cons (pv 3) (pa_cons (pv 4) pa_nil))))))))))
          (pss_one ps_never) pss_nil)))))
      (pss_cons (ps_par rfl sc_law_right.nd (i := 5) (j := 6) rfl rfl (by decide) rfl rfl (pa_cons (pe_callTy (call_listT rfl) (by rfl) T.b_list PyProof.Rows.boot_list (pa_cons pe_str pa_nil)) (pa_cons pe_str pa_nil)) (by rfl))
      (pss_cons (ps_for PassesOwn.never rfl (pi_range1 rfl T.b_range (pa_cons pe_int pa_nil)) (pg_name (i := 2) sc_law_right.nd rfl (.inl rfl))
        (pss_one (ps_set (i := 6) sc_law_right.nd rfl (.inl rfl) (pe_op op_addT (pv 6) (pe_bm PySem.F.plainAttrs_list PySem.F.slot_list_pop PySem.F.type_list_pop mt_popAt (pv 5) (pa_cons (pe_call (ok_law_draw T) (hr.mono (by decide)) (by rfl) T.law_draw.g T.law_draw.F.kp T.law_draw.b .nil pass0 (pa_cons (pv 0) (pa_cons (pe_callB call_len_seq (by rfl) T.b_len PySem.boot_len (pa_cons (pv 5) pa_nil)) pa_nil))) pa_nil))))))
      (pss_cons (ps_if (PW.pt (pw_or (pt_not (pt_val (pe_callG (ok_law_all T hcd TB) hr hG (by rfl) T.law_all_right.g T.law_all_right.F.kp T.law_all_right.b pass0 (pa_cons (pv 6) pa_nil))))
          (pw_or1 (pt_not (pt_val (pe_callG (ok_law_all T hcd TB) hr hG (by rfl) T.law_all_right.g T.law_all_right.F.kp T.law_all_right.b pass0 (pa_cons (pe_op op_addT (pv 6) (pe_call (ok_law_text T) (hr.mono (by decide)) (by rfl) T.law_text.g T.law_text.F.kp T.law_text.b .nil pass0 (pa_cons (pv 0) (pa_cons (pv 6) (pa_cons pe_int pa_nil))))) pa_nil)))))))
        (pss_one ps_never) pss_nil)
      (pss_cons (ps_if (PW.pt (pw_or (pt_not (pt_val (pe_callG (ok_law_two T hcd TB) hr hG (by rfl) T.law_two_right.g T.law_two_right.F.kp T.law_two_right.b pass0 (pa_cons (pv 0) (pa_cons (pv 6) (pa_cons (pv 6) (pa_cons (pe_call (ok_law_text T) (hr.mono (by decide)) (by rfl) T.law_text.g T.law_text.F.kp T.law_text.b .nil pass0 (pa_cons (pv 0) (pa_cons (pv 6) (pa_cons pe_int pa_nil)))) pa_nil)))))))
          (pw_or1 (pt_not (pt_val (pe_callG (ok_law_long T) (hr.mono (by decide)) hG (by rfl) T.law_long_right.g T.law_long_right.F.kp T.law_long_right.b pass0 (pa_cons (pv 0) (pa_cons (pv 6) pa_nil))))))))
        (pss_one ps_never) pss_nil)
      (pss_one (ps_ret (pe_and (pe_callG (ok_law_long T) (hr.mono (by decide)) hG (by rfl) T.law_long_right.g T.law_long_right.F.kp T.law_long_right.b pass0 (pa_cons (pv 0) (pa_cons (pv 1) pa_nil)))
        (pe_and (pe_cmpR (op_eqD hu) (pe_call (ok_parts T) (hr.mono (by decide)) (by rfl) T.parts.g T.parts.F.kp T.parts.b .nil pass0 (pa_cons pe_str pa_nil)) (pe_lst (pa_cons pe_str pa_nil)) (by rfl))
        (pe_one (pe_cmpR op_eq (pe_call (ok_how_many T) (hr.mono (by decide)) (by rfl) T.how_many_parts.g T.how_many_parts.F.kp T.how_many_parts.b .nil pass0 (pa_cons pe_str pa_nil)) pe_int (by rfl)))))))))))), ?_⟩
    -- signs
    refine ⟨_, rfl, by show 6 ≤ sizeLine; decide, fun p np => ?_⟩
    have hpp := fun o => hp.up (o := o) (hp.ne np)
    refine ⟨a, _, rfl, hpp _, .inr ⟨p, _, rfl, (hp.ne np).symm, .inl (.inl upd_same), by simp, by show 6 ≤ 1000; decide, fun H1 vsg hvm hp1 ho1 => ?_⟩⟩
    obtain ⟨sg, rfl, hs, hsm⟩ := sg_lit hvm
    have r1 : Rt Pt a H H1 := (⟨hpp _, .of (same_upd np), hT.ext (same_upd np)⟩ : Rt Pt a H (upd H p _)).to hp1 ho1
    refine ⟨_, rfl, by decide, by decide, ?_⟩
    refine for_range (lo := 0) (n := 4) (fun i σ H' => ∃ y2 y3 y4, σ = [some (.ref a), some (tx sg), y2, y3, y4, none, none] ∧ Rt Pt a H H') ⟨none, none, none, rfl, r1⟩ (fun i σ H2 hi p => ?_) (fun σ H2 p => ?_)
    · obtain ⟨y2, y3, y4, rfl, r2⟩ := p
      refine ⟨_, rfl, _, rfl, _, rfl, _, _, rfl, rfl, _, rfl, ite2 (fun e => ?_) (fun e => ?_)⟩
      all_goals
        first
          | refine ⟨a, sg, 10, rfl, r2.pot, hs, hsm.2, by decide, fun H3 t htl htm hp3 ho3 => ?_⟩
          | refine ⟨a, sg, 7, rfl, r2.pot, hs, hsm.2, by decide, fun H3 t htl htm hp3 ho3 => ?_⟩
        have ht : Small t := .of htm hsm (by omega)
        have h10 : t.length ≤ 10 := by omega
        have r3 := r2.to hp3 ho3
        refine ⟨_, rfl, .inl ⟨_, rfl, _, _, rfl, rfl, by show (0 : Int) < 2; decide, rfl, _, rfl, ite2 (fun e => ?_) (fun e => ?_)⟩⟩
        all_goals
          first
            | refine ⟨_, rfl, _, rfl, _, rfl, a, sg, t, rfl, hp3, hs, hsm.2, by omega, fun H4 v hvl hvm hp4 ho4 => ?_⟩
            | (refine ⟨_, rfl, _, rfl, a, sg, 8, rfl, hp3, hs, hsm.2, by decide, fun H4 v hvl hvm' hp4 ho4 => ?_⟩; have hvm : ∀ c ∈ v, c ∈ t ∨ c ∈ sg := fun c hc => .inr (hvm' c hc))
          have hv : Small v := ⟨fun c hc => (hvm c hc).elim (ht.1 c) (hsm.1 c), by omega⟩
          have r4 := r3.to hp4 ho4
          dsimp only [gName]
          refine if_no (Rt Pt a H) (fun Q hQ => ?_) (fun H5 r5 => ⟨_, _, _, rfl, r5⟩)
          refine ⟨_, rfl, t, rfl, ht, h10, r4.tabs, fun H5 x5 t5 => ⟨_, rfl, iteF ?_⟩⟩
          have r5 := r4.ext x5 t5
          refine ⟨_, rfl, _, rfl, _, rfl, _, rfl, a, sg, t, v, rfl, r5.pot, hs, hsm, ht, hv, by omega, by omega, r5.tabs, fun H6 p6 o6 t6 => ⟨_, rfl, ?_⟩⟩
          exact hQ _ (r5.toN p6 o6 t6)
    · obtain ⟨y2, y3, y4, rfl, r2⟩ := p
      -- left, six
      refine ⟨[102, 101, 99, 97, 100, 98], rfl, by decide, fun L nL => ?_⟩
      have hLa : a ≠ L := r2.pot.ne nL
      refine ⟨_, _, rfl, ?_⟩
      refine ⟨_, rfl, by decide, by decide, ?_⟩
      refine for_range (lo := 0) (n := 6) (fun i σ H' => ∃ y2 xs six, σ = [some (.ref a), some (tx sg), y2, y3, y4, some (.ref L), some (tx six)] ∧ Rt Pt a H2 H' ∧ H' L = some (.lst (xs.map fun c => tx [c])) ∧ xs.length + i = 6 ∧ six.length = i ∧ (∀ c ∈ xs, 97 ≤ c ∧ c ≤ 122) ∧ (∀ c ∈ six, 97 ≤ c ∧ c ≤ 122))
        ⟨y2, [102, 101, 99, 97, 100, 98], [], rfl, ⟨r2.pot.up hLa, .of (same_upd nL), r2.tabs.ext (same_upd nL)⟩, upd_same, rfl, rfl, by decide, fun c hc => by simp at hc⟩ (fun i σ H3 hi p => ?_) (fun σ H3 p => ?_)
      · obtain ⟨y2, xs, six, rfl, r3, hL3, hxl, hsl, hxc, hsc⟩ := p
        refine ⟨_, rfl, _, rfl, .inl ⟨rfl, _, .inl (.inl hL3)⟩, _, rfl, _, rfl, L, _, rfl, .inl (.inl (.inl hL3)), a, _, rfl, r3.pot, by rw [List.length_map]; omega, by rw [List.length_map]; omega, fun H4 d hd hp4 ho4 => ?_⟩
        have hL4 := ho4 _ _ hL3 hLa.symm
        rw [List.length_map] at hd
        refine ⟨L, _, (d : Int), d, _, rfl, rfl, hL4, by omega, by omega, seqIx (by rw [List.length_map]; exact hd), by rw [List.getElem?_map, List.getElem?_eq_getElem hd]; rfl, ?_⟩
        have hcd : 97 ≤ xs[d] ∧ xs[d] ≤ 122 := hxc _ (List.getElem_mem hd)
        refine ⟨six, [xs[d]], rfl, rfl, by rw [sizeLine_eq]; simp; omega, ?_⟩
        refine ⟨_, xs.eraseIdx d, six ++ [xs[d]], rfl, (r3.to hp4 ho4).put hL4 nL hLa, ?_, ?_, ?_, fun c hc => hxc c (List.mem_of_mem_eraseIdx hc), fun c hc => ?_⟩
        · rw [upd_same, erase_map]
        · rw [List.length_eraseIdx_of_lt hd]; omega
        · rw [List.length_append, hsl]; rfl
        · rcases List.mem_append.mp hc with hc | hc
          · exact hsc c hc
          · rw [List.mem_singleton.mp hc]; exact hcd
      · obtain ⟨y2, xs, six, rfl, r3, hL3, hxl, hsl, hxc, hsc⟩ := p
        have h6 : Small six := ⟨hsc, by omega⟩
        have h6n : six ≠ [] := fun z => by rw [z] at hsl; simp at hsl
        have hr3 : Rt Pt a H H3 := r2.toN r3.pot r3.off r3.tabs
        dsimp only
        refine seq_to ?_
        refine if_no (Rt Pt a H) (fun Q hQ => ?_) (fun H5 r5 => ?_)
        · refine ⟨_, rfl, six, rfl, h6, by omega, hr3.tabs, fun H5 x5 t5 => ⟨_, rfl, iteF ?_⟩⟩
          have r5 := hr3.ext x5 t5
          refine ⟨_, rfl, _, rfl, _, rfl, a, six, 3, rfl, r5.pot, h6n, h6.2, by decide, fun H6 t htl htm hp6 ho6 => ?_⟩
          have r6 := r5.to hp6 ho6
          have ht : Small t := .of htm h6 (by omega)
          refine ⟨six, t, rfl, rfl, by rw [sizeLine_eq]; omega, six ++ t, rfl, h6.app ht (by omega), by rw [List.length_append]; omega, r6.tabs, fun H7 x7 t7 => ⟨_, rfl, ?_⟩⟩
          exact hQ _ (r6.ext x7 t7)
        dsimp only [tNext]
        refine seq_to ?_
        refine if_no (Rt Pt a H) (fun Q hQ => ?_) (fun H6 r6 => ?_)
        · refine ⟨_, rfl, _, rfl, _, rfl, _, rfl, _, rfl, a, six, 8, rfl, r5.pot, h6n, h6.2, by decide, fun H6 t htl htm hp6 ho6 => ?_⟩
          have r6 := r5.to hp6 ho6
          have ht : Small t := .of htm h6 (by omega)
          refine ⟨a, six, six, t, rfl, r6.pot, h6n, h6, h6, ht, by omega, by omega, r6.tabs, fun H7 p7 o7 t7 => ⟨_, rfl, iteF ?_⟩⟩
          have r7 := r6.toN p7 o7 t7
          refine ⟨_, rfl, _, rfl, a, six, rfl, r7.pot, h6n, h6, fun H8 p8 o8 => ⟨_, rfl, ?_⟩⟩
          exact hQ _ (r7.to p8 o8)
        refine ⟨_, rfl, _, rfl, a, sg, rfl, r6.pot, hs, hsm, fun H7 p7 o7 => ⟨_, rfl, iteT ?_⟩⟩
        have r7 := r6.to p7 o7
        have h0 : Small [] := ⟨fun c hc => by simp at hc, by simp⟩
        refine ⟨[], rfl, h0, by simp, fun H8 p8 s8 n8 e8 => ?_⟩
        rw [sort_nil] at e8
        refine ⟨by show 1 ≤ sizeLine; decide, fun p9 n9 => ?_⟩
        refine ⟨_, _, .lst (.inl (.inl (same_upd n9 _ _ e8))) (dp_txs [[]]), .lst (.inl (.inl upd_same)) (dp_txs [[]]), by decide +kernel, by decide +kernel, _, rfl, ?_⟩
        have e9 : PyData.eqv (.list (dTx [[]])) (.list (dTx [[]])) = true := by decide +kernel
        rw [e9]
        refine iteT ?_
        refine ⟨[], rfl, h0, fun H10 s10 => ?_⟩
        refine ⟨rfl, ?_⟩
        have e10 : decide (V.int ((M11.subs []).length : Int) = V.int 1) = true := decide_eq_true rfl
        rw [e10]
        exact q _ (((r7.same s8).same (same_upd n9)).same s10)
end
end Lw
namespace L3
open PySem PySem.Spec PyProof.Rows L2
/-- a comprehension: R of the heap, A of the list so far; R asked of heaps that hold the list -/
theorem lc_gen2 {J : It} {n : Nat} {G : Hp → Prop} {Y : Nat → Hp → V → Hp → Prop} (w : Walk J n G Y) {g : TG} {tt : TT} {te : TE} {vs : List Nat} {σ : L2.St} {H1 : Hp} {D : Addr} {Qd : Hp → Prop} (R : Hp → Prop) (A : Nat → List V → Prop) (hz : n ≤ sizeLine) (hA : ∀ i acc, A i acc → acc.length ≤ i)
    (h0 : A 0 []) (r0 : R (upd H1 D (.lst []))) (r1 : ∀ H acc acc', H D = some (.lst acc) → R H → R (upd H D (.lst acc'))) (hG : ∀ H, R H → G H)
    (hs : ∀ i x H H' acc (C : VK) (N : Hp → Prop), i < n → R H → H D = some (.lst acc) → A i acc → Y i H x H' → (∀ v H4, R H4 → H4 D = some (.lst acc) → A (i + 1) (acc ++ [v]) → C v H4) → (∀ H3, R H3 → H3 D = some (.lst acc) → A (i + 1) acc → N H3) →
      g x (wipe σ vs) H' fun σ2 H2 => wipe σ2 vs = wipe σ vs ∧ tt σ2 H2 fun b H3 => if b = true then te σ2 H3 C else N H3)
    (hd : ∀ H xs, R H → H D = some (.lst xs) → A n xs → Qd H) :
    ∃ W : Nat → Nat → Hp → Prop, (∃ m, W 0 m (upd H1 D (.lst []))) ∧ ∀ i m H, W i m H →
      (J.stop i H ∧ Qd H) ∨ (J.go i H ∧ ∃ Nx : Hp → Prop, (∀ H', Nx H' → ∃ m', m' < m ∧ W (i + 1) m' H') ∧ ∀ x H', J.yld i H x H' → g x (wipe σ vs) H' fun σ2 H2 => wipe σ2 vs = wipe σ vs ∧ tt σ2 H2 fun b H3 =>
        if b = true then te σ2 H3 fun y H4 => ∃ acc, H4 D = some (.lst acc) ∧ acc.length < sizeLine ∧ Nx (upd H4 D (.lst (acc ++ [y]))) else Nx H3) := by
  refine lc_it w (fun i H => R H ∧ ∃ acc, H D = some (.lst acc) ∧ A i acc) ⟨r0, [], upd_same, h0⟩ (fun i H _ p => hG H p.1) (fun i x H H' hi p y => ?_) fun H p => ?_
  · obtain ⟨rH, acc, hD, ha⟩ := p
    refine hs i x H H' acc _ _ hi rH hD ha y (fun v H4 r4 d4 a4 => ⟨acc, d4, ?_, r1 _ _ _ d4 r4, _, upd_same, a4⟩) (fun H3 r3 d3 a3 => ⟨r3, acc, d3, a3⟩)
    have := hA i acc ha
    omega
  · obtain ⟨rH, acc, hD, ha⟩ := p
    exact hd H acc rH hD ha
end L3
namespace Lw
open PySem PySem.Spec PyProof.Rows L2 L3
theorem sq_put {K : PySem.W.Frag} {a D : Addr} {xs : List V} {H : Hp} {o : HO} (h : SqL K H a xs) (n : a ≠ D) : SqL K (upd H D o) a xs := by
  rcases h with (h | ⟨o', h⟩) | h
  · exact .inl (.inl (by rw [upd_ne n]; exact h))
  · exact .inl (.inr ⟨o', by rw [upd_ne n]; exact h⟩)
  · exact .inr h
theorem sq_new {K : PySem.W.Frag} {a D : Addr} {xs : List V} {H : Hp} {o : HO} (h : SqL K H a xs) (n : H D = none) : SqL K (upd H D o) a xs := by
  rcases h with (h | ⟨o', h⟩) | h
  · exact .inl (.inl (same_upd n _ _ h))
  · exact .inl (.inr ⟨o', same_upd n _ _ h⟩)
  · exact .inr h
theorem sq_same {K : PySem.W.Frag} {a : Addr} {xs : List V} {H H' : Hp} (h : SqL K H a xs) (s : Same H H') : SqL K H' a xs := by
  rcases h with (h | ⟨o', h⟩) | h
  · exact .inl (.inl (s _ _ h))
  · exact .inl (.inr ⟨o', s _ _ h⟩)
  · exact .inr h
theorem sq_offN {K : PySem.W.Frag} {a p : Addr} {xs : List V} {H H3 H' : Hp} (h : SqL K H a xs) (n : H p = none) (s : Same H H3) (o : OffN p H3 H') : SqL K H' a xs := by
  rcases h with (h | ⟨o', h⟩) | h
  · exact .inl (.inl (o _ _ (s _ _ h) (fun ps z => by cases z) (ne_of_none h n)))
  · exact .inl (.inr ⟨o', o _ _ (s _ _ h) (fun ps z => by cases z) (ne_of_none h n)⟩)
  · exact .inr h
section
variable {P : Program} {w : World} {K : PySem.W.Frag} {mg : Str → Option Value} {base : Heap}
/-! ### law -/
def spLaw (K : PySem.W.Frag) (Pt : Addr) : Sp := fun vs H Q _ => ∃ (a : Addr) (ns : List Int), vs = [.ref a] ∧ SqL K H a (ns.map V.int) ∧ LamX.Tabs (TT Pt) H ∧ ∀ H', Q (.bl true) H'
theorem ok_law (T : All K mg) {c Pt : Addr} (hcd : T.d_law_parts.code = .ref c) (TB : LamX.TabB base mg c Pt) : FnOkG P w K mg base CX0 9 T.f_law T.d_law ["_law_script"] (spLaw K Pt) := by
  refine okG T.law.F sc_law (fun vs H Q E h => ?_) (fun cdv A outer s H vs Q E hr hG h => ?_)
  · obtain ⟨a, ns, rfl, _⟩ := h
    rfl
  · obtain ⟨a, ns, rfl, hS, hT, q⟩ := h
    refine ⟨_, pss_one (ps_ret (pe_callB (cr_all rfl) (by rfl) T.b_all boot_all (pa_cons (pe_lc (own := [("_law_k", 1)]) (g := gName 1) (tt := tYes) rfl sc_law.nd
      (pi_range1 rfl T.b_range (pa_cons (pe_callB (call_max2 rfl) (by rfl) T.b_max PyProof.Rows.boot_max (pa_cons pe_int (pa_cons (pe_callB (call_min2 rfl) (by rfl) T.b_min PyProof.Rows.boot_min (pa_cons pe_int (pa_cons (pe_callB call_len_seq (by rfl) T.b_len PySem.boot_len (pa_cons (pv 0) pa_nil)) pa_nil))) pa_nil))) pa_nil))
      (blkOk_by (own := [("_law_k", 1)]) (N := ["_law_script", "_law_k"]) (sc := defScope s_law) (by decide +kernel))
      (fun _ _ _ _ _ => pg_name (i := 1) sc_law.nd rfl (Or.inl rfl)) (fun _ _ _ _ _ => pts_nil)
      (fun _ _ _ _ _ => pe_callG (ok_law_right T hcd TB) hr hG (by rfl) T.law_right.g T.law_right.F.kp T.law_right.b pass0 (pa_cons (pe_call (ok_law_pot T) (hr.mono (by decide)) (by rfl) T.law_pot.g T.law_pot.F.kp T.law_pot.b .nil pass0 (pa_cons (pv 0) (pa_cons (pv 1) pa_nil))) pa_nil))) pa_nil))), ?_⟩
    refine ⟨_, rfl, a, _, rfl, .inl hS, _, _, rfl, _, _, rfl, ?_⟩
    refine ⟨_, rfl, ?_, ?_, fun D nD => ?_⟩
    · split <;> split <;> omega
    · split <;> split <;> omega
    have hn : ((if (if ((ns.map V.int).length : Int) < 4 then ((ns.map V.int).length : Int) else 4) > 1 then (if ((ns.map V.int).length : Int) < 4 then ((ns.map V.int).length : Int) else 4) else 1) : Int).toNat ≤ 4 := by
      split <;> split <;> omega
    have hAD : (∀ H', SqL K H' a (ns.map V.int)) ∨ a ≠ D := by
      rcases hS with (h | ⟨o', h⟩) | h
      · exact .inr (ne_of_none h nD)
      · exact .inr (ne_of_none h nD)
      · exact .inl fun H' => .inr h
    refine lc_gen2 walk_range (fun H' => LamX.Tabs (TT Pt) H' ∧ SqL K H' a (ns.map V.int)) (fun i acc => acc = List.replicate i (.bl true)) ?_ (fun i acc e => by rw [e]; simp) rfl
      ⟨hT.ext (same_upd nD), sq_new hS nD⟩ (fun H' acc acc' hD r => ⟨tabs_lst r.1 hD (Off.at (Off.refl _ _)), hAD.elim (fun h => h _) (fun n => sq_put r.2 n)⟩) (fun _ _ => trivial) (fun i x H7 H8 acc C N hi r hD ha y c n => ?_) (fun H7 xs r hD ha => ?_)
    · rw [sizeLine_eq]
      exact Nat.le_trans hn (by decide)
    · obtain ⟨rfl, rfl⟩ := y
      have hi4 : i < 4 := Nat.lt_of_lt_of_le hi hn
      refine ⟨rfl, yes_te ?_⟩
      refine ⟨_, rfl, _, rfl, a, ns, i, congrArg (fun z => [V.ref a, V.int z]) (Int.zero_add _), r.2, by omega, fun H9 p s9 n9 hp9 => ?_⟩
      refine ⟨p, rfl, hp9, r.1.ext s9, fun H10 r10 => ?_⟩
      refine c _ _ ⟨r10.tabs, sq_offN r.2 n9 s9 r10.off⟩ (r10.off _ _ (s9 _ _ hD) (fun ps z => by cases z) (ne_of_none hD n9)) ?_
      rw [ha, List.replicate_succ']
    · subst ha
      refine ⟨D, List.replicate _ true, rfl, .inl (.inl (by rw [hD, List.map_replicate])), ?_⟩
      rw [all_id_rep]
      exact q _
end
end Lw
namespace Lw
open PySem PySem.Spec PyProof.Rows L2 L3
theorem fin {P : Program} {w : World} {K : PySem.W.Frag} {mg mb : Str → Option Value} {fa fl a c Pt : Addr} {s₁ : Shared} {vs : List Value} {ns : List Int}
    (KX : K.In s₁.heap) (hns : s₁.heap.Ns mainGlobals mg) (hb : s₁.heap.Ns builtinsNs mb) (hbb : ∀ x : Str, x ≠ "__name__" → mb x = bootBuiltins x) (hlim : s₁.heap.NoLimit) (hg : s₁.gens = #[])
    (hT : s₁.heap.get? Pt = some (PySem.W.tabObj #[])) (nT : K.lookup Pt = none) (hC : PySem.W.codeHdIn K c Pt = true)
    (hbm : ∃ (bm : Addr) (ob : Obj), mg "__builtins__" = some (.ref bm) ∧ bm ≠ builtinsNs ∧ s₁.heap.get? bm = some ob ∧ ob.cls = .type "module" ∧ ob.dict = some builtinsNs ∧ ob.data = .plain)
    (ha : s₁.heap.get? a = some { cls := .type "list", data := .seq vs.toArray }) (hi : IntsAre vs ns) (hl : ns.length ≤ sizeLine) (hmg : mg "law" = some (.ref fa))
    (hall : ∃ T : All K mg, T.f_law = fl ∧ T.d_law_parts.code = .ref c) :
    codeAny (model P w) callerA (.call (.ref fa) ⟨[.ref a], []⟩) (fun r s' => r = .ok (.ret (.bool true)) ∧ OldK s₁.heap s'.heap ∧ s'.os = s₁.os ∧ AllBare s'.gens) s₁ := by
  obtain ⟨T, _, hcd⟩ := hall
  have e : T.f_law = fa := by
    have h := T.law.g
    rw [hmg] at h
    exact (Value.ref.inj (Option.some.inj h)).symm
  rw [← e]
  refine law_callG (cs := [(c, Pt)]) (k := 9) (sp := spLaw K Pt) KX hns hb hbb hlim hg (fun p hp => ?_) (fun p hp => ?_) (fun p hp => ?_) hbm ha hi hl ⟨rfl, by decide, by decide⟩ (fun base hK hM TB => ok_law T hcd (TB (c, Pt) (List.mem_singleton.mpr rfl))) T.law.b (fun H hH hS => ?_)
  · rw [List.mem_singleton.mp hp]; exact hT
  · rw [List.mem_singleton.mp hp]; exact nT
  · rw [List.mem_singleton.mp hp]; exact PySem.W.codeHd_of_K KX hC
  · refine ⟨a, ns, rfl, hS, fun p hp => ?_, fun H' => rfl⟩
    rw [List.mem_singleton.mp hp]
    exact LamX.TabS.nil (hH (c, Pt) (List.mem_singleton.mpr rfl))
end Lw
namespace Lw
open PySem PySem.Spec PyProof.Rows L2 L3
theorem all_mk {K : PySem.W.Frag} {h : Heap} {mg : Str → Option Value} (X : K.In h) (G : h.Ns mainGlobals mg)
    {f_is_text : Addr} {oc_is_text kV_is_text dc_is_text pm_is_text cd_is_text ct_is_text : Value} {od_is_text an_is_text : Option Addr} {sl_is_text : Array (Option Value)}
    (a_is_text : PySem.W.nsIn K mainGlobals "is_text" = some (some (.ref f_is_text))) (l_is_text : K.lookup f_is_text = some ⟨oc_is_text, od_is_text, .func (PySem.W.fnOf "is_text" "is_text" (defArgs s_is_text) (defBody s_is_text) (defScope s_is_text) .none kV_is_text dc_is_text pm_is_text an_is_text cd_is_text ct_is_text), sl_is_text⟩) (e_is_text : PySem.W.codeIn K cd_is_text "is_text" = true) (k_is_text : PySem.W.keepIn K (.ref f_is_text) = true)
    {f_text_key : Addr} {oc_text_key kV_text_key dc_text_key pm_text_key cd_text_key ct_text_key : Value} {od_text_key an_text_key : Option Addr} {sl_text_key : Array (Option Value)}
    (a_text_key : PySem.W.nsIn K mainGlobals "text_key" = some (some (.ref f_text_key))) (l_text_key : K.lookup f_text_key = some ⟨oc_text_key, od_text_key, .func (PySem.W.fnOf "text_key" "text_key" (defArgs s_text_key) (defBody s_text_key) (defScope s_text_key) .none kV_text_key dc_text_key pm_text_key an_text_key cd_text_key ct_text_key), sl_text_key⟩) (e_text_key : PySem.W.codeIn K cd_text_key "text_key" = true) (k_text_key : PySem.W.keepIn K (.ref f_text_key) = true)
    {f_want_few : Addr} {oc_want_few kV_want_few dc_want_few pm_want_few cd_want_few ct_want_few : Value} {od_want_few an_want_few : Option Addr} {sl_want_few : Array (Option Value)}
    (a_want_few : PySem.W.nsIn K mainGlobals "want_few" = some (some (.ref f_want_few))) (l_want_few : K.lookup f_want_few = some ⟨oc_want_few, od_want_few, .func (PySem.W.fnOf "want_few" "want_few" (defArgs s_want_few) (defBody s_want_few) (defScope s_want_few) .none kV_want_few dc_want_few pm_want_few an_want_few cd_want_few ct_want_few), sl_want_few⟩) (e_want_few : PySem.W.codeIn K cd_want_few "want_few" = true) (k_want_few : PySem.W.keepIn K (.ref f_want_few) = true)
    {f_want_texts : Addr} {oc_want_texts kV_want_texts dc_want_texts pm_want_texts cd_want_texts ct_want_texts : Value} {od_want_texts an_want_texts : Option Addr} {sl_want_texts : Array (Option Value)}
    (a_want_texts : PySem.W.nsIn K mainGlobals "want_texts" = some (some (.ref f_want_texts))) (l_want_texts : K.lookup f_want_texts = some ⟨oc_want_texts, od_want_texts, .func (PySem.W.fnOf "want_texts" "want_texts" (defArgs s_want_texts) (defBody s_want_texts) (defScope s_want_texts) .none kV_want_texts dc_want_texts pm_want_texts an_want_texts cd_want_texts ct_want_texts), sl_want_texts⟩) (e_want_texts : PySem.W.codeIn K cd_want_texts "want_texts" = true) (k_want_texts : PySem.W.keepIn K (.ref f_want_texts) = true)
    {f_is_part_of : Addr} {oc_is_part_of kV_is_part_of dc_is_part_of pm_is_part_of cd_is_part_of ct_is_part_of : Value} {od_is_part_of an_is_part_of : Option Addr} {sl_is_part_of : Array (Option Value)}
    (a_is_part_of : PySem.W.nsIn K mainGlobals "is_part_of" = some (some (.ref f_is_part_of))) (l_is_part_of : K.lookup f_is_part_of = some ⟨oc_is_part_of, od_is_part_of, .func (PySem.W.fnOf "is_part_of" "is_part_of" (defArgs s_is_part_of) (defBody s_is_part_of) (defScope s_is_part_of) .none kV_is_part_of dc_is_part_of pm_is_part_of an_is_part_of cd_is_part_of ct_is_part_of), sl_is_part_of⟩) (e_is_part_of : PySem.W.codeIn K cd_is_part_of "is_part_of" = true) (k_is_part_of : PySem.W.keepIn K (.ref f_is_part_of) = true)
    {f_is_part : Addr} {oc_is_part kV_is_part dc_is_part pm_is_part cd_is_part ct_is_part : Value} {od_is_part an_is_part : Option Addr} {sl_is_part : Array (Option Value)}
    (a_is_part : PySem.W.nsIn K mainGlobals "is_part" = some (some (.ref f_is_part))) (l_is_part : K.lookup f_is_part = some ⟨oc_is_part, od_is_part, .func (PySem.W.fnOf "is_part" "is_part" (defArgs s_is_part) (defBody s_is_part) (defScope s_is_part) .none kV_is_part dc_is_part pm_is_part an_is_part cd_is_part ct_is_part), sl_is_part⟩) (e_is_part : PySem.W.codeIn K cd_is_part "is_part" = true) (k_is_part : PySem.W.keepIn K (.ref f_is_part) = true)
    {f_how_many_parts : Addr} {oc_how_many_parts kV_how_many_parts dc_how_many_parts pm_how_many_parts cd_how_many_parts ct_how_many_parts : Value} {od_how_many_parts an_how_many_parts : Option Addr} {sl_how_many_parts : Array (Option Value)}
    (a_how_many_parts : PySem.W.nsIn K mainGlobals "how_many_parts" = some (some (.ref f_how_many_parts))) (l_how_many_parts : K.lookup f_how_many_parts = some ⟨oc_how_many_parts, od_how_many_parts, .func (PySem.W.fnOf "how_many_parts" "how_many_parts" (defArgs s_how_many_parts) (defBody s_how_many_parts) (defScope s_how_many_parts) .none kV_how_many_parts dc_how_many_parts pm_how_many_parts an_how_many_parts cd_how_many_parts ct_how_many_parts), sl_how_many_parts⟩) (e_how_many_parts : PySem.W.codeIn K cd_how_many_parts "how_many_parts" = true) (k_how_many_parts : PySem.W.keepIn K (.ref f_how_many_parts) = true)
    {f_parts_to : Addr} {oc_parts_to kV_parts_to dc_parts_to pm_parts_to cd_parts_to ct_parts_to : Value} {od_parts_to an_parts_to : Option Addr} {sl_parts_to : Array (Option Value)}
    (a_parts_to : PySem.W.nsIn K mainGlobals "parts_to" = some (some (.ref f_parts_to))) (l_parts_to : K.lookup f_parts_to = some ⟨oc_parts_to, od_parts_to, .func (PySem.W.fnOf "parts_to" "parts_to" (defArgs s_parts_to) (defBody s_parts_to) (defScope s_parts_to) .none kV_parts_to dc_parts_to pm_parts_to an_parts_to cd_parts_to ct_parts_to), sl_parts_to⟩) (e_parts_to : PySem.W.codeIn K cd_parts_to "parts_to" = true) (k_parts_to : PySem.W.keepIn K (.ref f_parts_to) = true)
    {f_parts : Addr} {oc_parts kV_parts dc_parts pm_parts cd_parts ct_parts : Value} {od_parts an_parts : Option Addr} {sl_parts : Array (Option Value)}
    (a_parts : PySem.W.nsIn K mainGlobals "parts" = some (some (.ref f_parts))) (l_parts : K.lookup f_parts = some ⟨oc_parts, od_parts, .func (PySem.W.fnOf "parts" "parts" (defArgs s_parts) (defBody s_parts) (defScope s_parts) .none kV_parts dc_parts pm_parts an_parts cd_parts ct_parts), sl_parts⟩) (e_parts : PySem.W.codeIn K cd_parts "parts" = true) (k_parts : PySem.W.keepIn K (.ref f_parts) = true)
    {f_law_pot : Addr} {oc_law_pot kV_law_pot dc_law_pot pm_law_pot cd_law_pot ct_law_pot : Value} {od_law_pot an_law_pot : Option Addr} {sl_law_pot : Array (Option Value)}
    (a_law_pot : PySem.W.nsIn K mainGlobals "_law_pot" = some (some (.ref f_law_pot))) (l_law_pot : K.lookup f_law_pot = some ⟨oc_law_pot, od_law_pot, .func (PySem.W.fnOf "_law_pot" "_law_pot" (defArgs s_law_pot) (defBody s_law_pot) (defScope s_law_pot) .none kV_law_pot dc_law_pot pm_law_pot an_law_pot cd_law_pot ct_law_pot), sl_law_pot⟩) (e_law_pot : PySem.W.codeIn K cd_law_pot "_law_pot" = true) (k_law_pot : PySem.W.keepIn K (.ref f_law_pot) = true)
    {f_law_draw : Addr} {oc_law_draw kV_law_draw dc_law_draw pm_law_draw cd_law_draw ct_law_draw : Value} {od_law_draw an_law_draw : Option Addr} {sl_law_draw : Array (Option Value)}
    (a_law_draw : PySem.W.nsIn K mainGlobals "_law_draw" = some (some (.ref f_law_draw))) (l_law_draw : K.lookup f_law_draw = some ⟨oc_law_draw, od_law_draw, .func (PySem.W.fnOf "_law_draw" "_law_draw" (defArgs s_law_draw) (defBody s_law_draw) (defScope s_law_draw) .none kV_law_draw dc_law_draw pm_law_draw an_law_draw cd_law_draw ct_law_draw), sl_law_draw⟩) (e_law_draw : PySem.W.codeIn K cd_law_draw "_law_draw" = true) (k_law_draw : PySem.W.keepIn K (.ref f_law_draw) = true)
    {f_law_pick : Addr} {oc_law_pick kV_law_pick dc_law_pick pm_law_pick cd_law_pick ct_law_pick : Value} {od_law_pick an_law_pick : Option Addr} {sl_law_pick : Array (Option Value)}
    (a_law_pick : PySem.W.nsIn K mainGlobals "_law_pick" = some (some (.ref f_law_pick))) (l_law_pick : K.lookup f_law_pick = some ⟨oc_law_pick, od_law_pick, .func (PySem.W.fnOf "_law_pick" "_law_pick" (defArgs s_law_pick) (defBody s_law_pick) (defScope s_law_pick) .none kV_law_pick dc_law_pick pm_law_pick an_law_pick cd_law_pick ct_law_pick), sl_law_pick⟩) (e_law_pick : PySem.W.codeIn K cd_law_pick "_law_pick" = true) (k_law_pick : PySem.W.keepIn K (.ref f_law_pick) = true)
    {f_law_text : Addr} {oc_law_text kV_law_text dc_law_text pm_law_text cd_law_text ct_law_text : Value} {od_law_text an_law_text : Option Addr} {sl_law_text : Array (Option Value)}
    (a_law_text : PySem.W.nsIn K mainGlobals "_law_text" = some (some (.ref f_law_text))) (l_law_text : K.lookup f_law_text = some ⟨oc_law_text, od_law_text, .func (PySem.W.fnOf "_law_text" "_law_text" (defArgs s_law_text) (defBody s_law_text) (defScope s_law_text) .none kV_law_text dc_law_text pm_law_text an_law_text cd_law_text ct_law_text), sl_law_text⟩) (e_law_text : PySem.W.codeIn K cd_law_text "_law_text" = true) (k_law_text : PySem.W.keepIn K (.ref f_law_text) = true)
    {f_law_parts : Addr} {oc_law_parts kV_law_parts dc_law_parts pm_law_parts cd_law_parts ct_law_parts : Value} {od_law_parts an_law_parts : Option Addr} {sl_law_parts : Array (Option Value)}
    (a_law_parts : PySem.W.nsIn K mainGlobals "_law_parts" = some (some (.ref f_law_parts))) (l_law_parts : K.lookup f_law_parts = some ⟨oc_law_parts, od_law_parts, .func (PySem.W.fnOf "_law_parts" "_law_parts" (defArgs s_law_parts) (defBody s_law_parts) (defScope s_law_parts) .none kV_law_parts dc_law_parts pm_law_parts an_law_parts cd_law_parts ct_law_parts), sl_law_parts⟩) (e_law_parts : PySem.W.codeIn K cd_law_parts "_law_parts" = true) (k_law_parts : PySem.W.keepIn K (.ref f_law_parts) = true)
    {f_law_in : Addr} {oc_law_in kV_law_in dc_law_in pm_law_in cd_law_in ct_law_in : Value} {od_law_in an_law_in : Option Addr} {sl_law_in : Array (Option Value)}
    (a_law_in : PySem.W.nsIn K mainGlobals "_law_in" = some (some (.ref f_law_in))) (l_law_in : K.lookup f_law_in = some ⟨oc_law_in, od_law_in, .func (PySem.W.fnOf "_law_in" "_law_in" (defArgs s_law_in) (defBody s_law_in) (defScope s_law_in) .none kV_law_in dc_law_in pm_law_in an_law_in cd_law_in ct_law_in), sl_law_in⟩) (e_law_in : PySem.W.codeIn K cd_law_in "_law_in" = true) (k_law_in : PySem.W.keepIn K (.ref f_law_in) = true)
    {f_law_many : Addr} {oc_law_many kV_law_many dc_law_many pm_law_many cd_law_many ct_law_many : Value} {od_law_many an_law_many : Option Addr} {sl_law_many : Array (Option Value)}
    (a_law_many : PySem.W.nsIn K mainGlobals "_law_many" = some (some (.ref f_law_many))) (l_law_many : K.lookup f_law_many = some ⟨oc_law_many, od_law_many, .func (PySem.W.fnOf "_law_many" "_law_many" (defArgs s_law_many) (defBody s_law_many) (defScope s_law_many) .none kV_law_many dc_law_many pm_law_many an_law_many cd_law_many ct_law_many), sl_law_many⟩) (e_law_many : PySem.W.codeIn K cd_law_many "_law_many" = true) (k_law_many : PySem.W.keepIn K (.ref f_law_many) = true)
    {f_law_bent : Addr} {oc_law_bent kV_law_bent dc_law_bent pm_law_bent cd_law_bent ct_law_bent : Value} {od_law_bent an_law_bent : Option Addr} {sl_law_bent : Array (Option Value)}
    (a_law_bent : PySem.W.nsIn K mainGlobals "_law_bent" = some (some (.ref f_law_bent))) (l_law_bent : K.lookup f_law_bent = some ⟨oc_law_bent, od_law_bent, .func (PySem.W.fnOf "_law_bent" "_law_bent" (defArgs s_law_bent) (defBody s_law_bent) (defScope s_law_bent) .none kV_law_bent dc_law_bent pm_law_bent an_law_bent cd_law_bent ct_law_bent), sl_law_bent⟩) (e_law_bent : PySem.W.codeIn K cd_law_bent "_law_bent" = true) (k_law_bent : PySem.W.keepIn K (.ref f_law_bent) = true)
    {f_law_all_right : Addr} {oc_law_all_right kV_law_all_right dc_law_all_right pm_law_all_right cd_law_all_right ct_law_all_right : Value} {od_law_all_right an_law_all_right : Option Addr} {sl_law_all_right : Array (Option Value)}
    (a_law_all_right : PySem.W.nsIn K mainGlobals "_law_all_right" = some (some (.ref f_law_all_right))) (l_law_all_right : K.lookup f_law_all_right = some ⟨oc_law_all_right, od_law_all_right, .func (PySem.W.fnOf "_law_all_right" "_law_all_right" (defArgs s_law_all_right) (defBody s_law_all_right) (defScope s_law_all_right) .none kV_law_all_right dc_law_all_right pm_law_all_right an_law_all_right cd_law_all_right ct_law_all_right), sl_law_all_right⟩) (e_law_all_right : PySem.W.codeIn K cd_law_all_right "_law_all_right" = true) (k_law_all_right : PySem.W.keepIn K (.ref f_law_all_right) = true)
    {f_law_two_right : Addr} {oc_law_two_right kV_law_two_right dc_law_two_right pm_law_two_right cd_law_two_right ct_law_two_right : Value} {od_law_two_right an_law_two_right : Option Addr} {sl_law_two_right : Array (Option Value)}
    (a_law_two_right : PySem.W.nsIn K mainGlobals "_law_two_right" = some (some (.ref f_law_two_right))) (l_law_two_right : K.lookup f_law_two_right = some ⟨oc_law_two_right, od_law_two_right, .func (PySem.W.fnOf "_law_two_right" "_law_two_right" (defArgs s_law_two_right) (defBody s_law_two_right) (defScope s_law_two_right) .none kV_law_two_right dc_law_two_right pm_law_two_right an_law_two_right cd_law_two_right ct_law_two_right), sl_law_two_right⟩) (e_law_two_right : PySem.W.codeIn K cd_law_two_right "_law_two_right" = true) (k_law_two_right : PySem.W.keepIn K (.ref f_law_two_right) = true)
    {f_law_long_right : Addr} {oc_law_long_right kV_law_long_right dc_law_long_right pm_law_long_right cd_law_long_right ct_law_long_right : Value} {od_law_long_right an_law_long_right : Option Addr} {sl_law_long_right : Array (Option Value)}
    (a_law_long_right : PySem.W.nsIn K mainGlobals "_law_long_right" = some (some (.ref f_law_long_right))) (l_law_long_right : K.lookup f_law_long_right = some ⟨oc_law_long_right, od_law_long_right, .func (PySem.W.fnOf "_law_long_right" "_law_long_right" (defArgs s_law_long_right) (defBody s_law_long_right) (defScope s_law_long_right) .none kV_law_long_right dc_law_long_right pm_law_long_right an_law_long_right cd_law_long_right ct_law_long_right), sl_law_long_right⟩) (e_law_long_right : PySem.W.codeIn K cd_law_long_right "_law_long_right" = true) (k_law_long_right : PySem.W.keepIn K (.ref f_law_long_right) = true)
    {f_law_right : Addr} {oc_law_right kV_law_right dc_law_right pm_law_right cd_law_right ct_law_right : Value} {od_law_right an_law_right : Option Addr} {sl_law_right : Array (Option Value)}
    (a_law_right : PySem.W.nsIn K mainGlobals "_law_right" = some (some (.ref f_law_right))) (l_law_right : K.lookup f_law_right = some ⟨oc_law_right, od_law_right, .func (PySem.W.fnOf "_law_right" "_law_right" (defArgs s_law_right) (defBody s_law_right) (defScope s_law_right) .none kV_law_right dc_law_right pm_law_right an_law_right cd_law_right ct_law_right), sl_law_right⟩) (e_law_right : PySem.W.codeIn K cd_law_right "_law_right" = true) (k_law_right : PySem.W.keepIn K (.ref f_law_right) = true)
    {f_law : Addr} {oc_law kV_law dc_law pm_law cd_law ct_law : Value} {od_law an_law : Option Addr} {sl_law : Array (Option Value)}
    (a_law : PySem.W.nsIn K mainGlobals "law" = some (some (.ref f_law))) (l_law : K.lookup f_law = some ⟨oc_law, od_law, .func (PySem.W.fnOf "law" "law" (defArgs s_law) (defBody s_law) (defScope s_law) .none kV_law dc_law pm_law an_law cd_law ct_law), sl_law⟩) (e_law : PySem.W.codeIn K cd_law "law" = true) (k_law : PySem.W.keepIn K (.ref f_law) = true)
    (z_abs : PySem.W.nsIn K mainGlobals "abs" = some none)
    (z_all : PySem.W.nsIn K mainGlobals "all" = some none)
    (z_divmod : PySem.W.nsIn K mainGlobals "divmod" = some none)
    (z_int : PySem.W.nsIn K mainGlobals "int" = some none)
    (z_isinstance : PySem.W.nsIn K mainGlobals "isinstance" = some none)
    (z_len : PySem.W.nsIn K mainGlobals "len" = some none)
    (z_list : PySem.W.nsIn K mainGlobals "list" = some none)
    (z_max : PySem.W.nsIn K mainGlobals "max" = some none)
    (z_min : PySem.W.nsIn K mainGlobals "min" = some none)
    (z_range : PySem.W.nsIn K mainGlobals "range" = some none)
    (z_repr : PySem.W.nsIn K mainGlobals "repr" = some none)
    (z_sorted : PySem.W.nsIn K mainGlobals "sorted" = some none)
    (z_str : PySem.W.nsIn K mainGlobals "str" = some none)
    (z_sum : PySem.W.nsIn K mainGlobals "sum" = some none)
    (z_tuple : PySem.W.nsIn K mainGlobals "tuple" = some none)
    {t_SMALL : Tok} (y_SMALL : PySem.W.nsIn K mainGlobals "SMALL" = some (some (.str "abcdefghijklmnopqrstuvwxyz" t_SMALL)))
    {t_MOST_LISTED : Tok} (y_MOST_LISTED : PySem.W.nsIn K mainGlobals "MOST_LISTED" = some (some (.int 10 t_MOST_LISTED)))
    : ∃ T : All K mg, T.f_law = f_law ∧ T.d_law_parts.code = cd_law_parts := by
  have F_is_text := fun_mk (st := s_is_text) l_is_text e_is_text k_is_text
  have B_is_text := F_is_text.binds (ps := ["value"]) fun _ _ _ _ _ _ us hl => match us, hl with | [_], _ => rfl
  have F_text_key := fun_mk (st := s_text_key) l_text_key e_text_key k_text_key
  have B_text_key := F_text_key.binds (ps := ["text"]) fun _ _ _ _ _ _ us hl => match us, hl with | [_], _ => rfl
  have F_want_few := fun_mk (st := s_want_few) l_want_few e_want_few k_want_few
  have B_want_few := F_want_few.binds (ps := ["what", "many", "limit"]) fun _ _ _ _ _ _ us hl => match us, hl with | [_, _, _], _ => rfl
  have F_want_texts := fun_mk (st := s_want_texts) l_want_texts e_want_texts k_want_texts
  have B_want_texts := F_want_texts.binds (ps := ["texts"]) fun _ _ _ _ _ _ us hl => match us, hl with | [_], _ => rfl
  have F_is_part_of := fun_mk (st := s_is_part_of) l_is_part_of e_is_part_of k_is_part_of
  have B_is_part_of := F_is_part_of.binds (ps := ["text", "whole"]) fun _ _ _ _ _ _ us hl => match us, hl with | [_, _], _ => rfl
  have F_is_part := fun_mk (st := s_is_part) l_is_part e_is_part k_is_part
  have B_is_part := F_is_part.binds (ps := ["text", "whole"]) fun _ _ _ _ _ _ us hl => match us, hl with | [_, _], _ => rfl
  have F_how_many_parts := fun_mk (st := s_how_many_parts) l_how_many_parts e_how_many_parts k_how_many_parts
  have B_how_many_parts := F_how_many_parts.binds (ps := ["text"]) fun _ _ _ _ _ _ us hl => match us, hl with | [_], _ => rfl
  have F_parts_to := fun_mk (st := s_parts_to) l_parts_to e_parts_to k_parts_to
  have B_parts_to := F_parts_to.binds (ps := ["text", "number"]) fun _ _ _ _ _ _ us hl => match us, hl with | [_, _], _ => rfl
  have F_parts := fun_mk (st := s_parts) l_parts e_parts k_parts
  have B_parts := F_parts.binds (ps := ["text"]) fun _ _ _ _ _ _ us hl => match us, hl with | [_], _ => rfl
  have F_law_pot := fun_mk (st := s_law_pot) l_law_pot e_law_pot k_law_pot
  have B_law_pot := F_law_pot.binds (ps := ["_law_script", "_law_k"]) fun _ _ _ _ _ _ us hl => match us, hl with | [_, _], _ => rfl
  have F_law_draw := fun_mk (st := s_law_draw) l_law_draw e_law_draw k_law_draw
  have B_law_draw := F_law_draw.binds (ps := ["_law_pot_here", "_law_sides"]) fun _ _ _ _ _ _ us hl => match us, hl with | [_, _], _ => rfl
  have F_law_pick := fun_mk (st := s_law_pick) l_law_pick e_law_pick k_law_pick
  have B_law_pick := F_law_pick.binds (ps := ["_law_pot_here", "_law_some"]) fun _ _ _ _ _ _ us hl => match us, hl with | [_, _], _ => rfl
  have F_law_text := fun_mk (st := s_law_text) l_law_text e_law_text k_law_text
  have B_law_text := F_law_text.binds (ps := ["_law_pot_here", "_law_signs", "_law_most"]) fun _ _ _ _ _ _ us hl => match us, hl with | [_, _, _], _ => rfl
  have F_law_parts := fun_mk (st := s_law_parts) l_law_parts e_law_parts k_law_parts
  have B_law_parts := F_law_parts.binds (ps := ["_law_text_here"]) fun _ _ _ _ _ _ us hl => match us, hl with | [_], _ => rfl
  have F_law_in := fun_mk (st := s_law_in) l_law_in e_law_in k_law_in
  have B_law_in := F_law_in.binds (ps := ["_law_one", "_law_text_here"]) fun _ _ _ _ _ _ us hl => match us, hl with | [_, _], _ => rfl
  have F_law_many := fun_mk (st := s_law_many) l_law_many e_law_many k_law_many
  have B_law_many := F_law_many.binds (ps := ["_law_text_here"]) fun _ _ _ _ _ _ us hl => match us, hl with | [_], _ => rfl
  have F_law_bent := fun_mk (st := s_law_bent) l_law_bent e_law_bent k_law_bent
  have B_law_bent := F_law_bent.binds (ps := ["_law_pot_here", "_law_signs", "_law_text_here"]) fun _ _ _ _ _ _ us hl => match us, hl with | [_, _, _], _ => rfl
  have F_law_all_right := fun_mk (st := s_law_all_right) l_law_all_right e_law_all_right k_law_all_right
  have B_law_all_right := F_law_all_right.binds (ps := ["_law_text_here"]) fun _ _ _ _ _ _ us hl => match us, hl with | [_], _ => rfl
  have F_law_two_right := fun_mk (st := s_law_two_right) l_law_two_right e_law_two_right k_law_two_right
  have B_law_two_right := F_law_two_right.binds (ps := ["_law_pot_here", "_law_signs", "_law_one", "_law_other"]) fun _ _ _ _ _ _ us hl => match us, hl with | [_, _, _, _], _ => rfl
  have F_law_long_right := fun_mk (st := s_law_long_right) l_law_long_right e_law_long_right k_law_long_right
  have B_law_long_right := F_law_long_right.binds (ps := ["_law_pot_here", "_law_signs"]) fun _ _ _ _ _ _ us hl => match us, hl with | [_, _], _ => rfl
  have F_law_right := fun_mk (st := s_law_right) l_law_right e_law_right k_law_right
  have B_law_right := F_law_right.binds (ps := ["_law_pot_here"]) fun _ _ _ _ _ _ us hl => match us, hl with | [_], _ => rfl
  have F_law := fun_mk (st := s_law) l_law e_law k_law
  have B_law := F_law.binds (ps := ["_law_script"]) fun _ _ _ _ _ _ us hl => match us, hl with | [_], _ => rfl
  exact ⟨⟨_, _, ⟨F_is_text, B_is_text, PySem.W.mg_of X G a_is_text⟩,
    _, _, ⟨F_text_key, B_text_key, PySem.W.mg_of X G a_text_key⟩,
    _, _, ⟨F_want_few, B_want_few, PySem.W.mg_of X G a_want_few⟩,
    _, _, ⟨F_want_texts, B_want_texts, PySem.W.mg_of X G a_want_texts⟩,
    _, _, ⟨F_is_part_of, B_is_part_of, PySem.W.mg_of X G a_is_part_of⟩,
    _, _, ⟨F_is_part, B_is_part, PySem.W.mg_of X G a_is_part⟩,
    _, _, ⟨F_how_many_parts, B_how_many_parts, PySem.W.mg_of X G a_how_many_parts⟩,
    _, _, ⟨F_parts_to, B_parts_to, PySem.W.mg_of X G a_parts_to⟩,
    _, _, ⟨F_parts, B_parts, PySem.W.mg_of X G a_parts⟩,
    _, _, ⟨F_law_pot, B_law_pot, PySem.W.mg_of X G a_law_pot⟩,
    _, _, ⟨F_law_draw, B_law_draw, PySem.W.mg_of X G a_law_draw⟩,
    _, _, ⟨F_law_pick, B_law_pick, PySem.W.mg_of X G a_law_pick⟩,
    _, _, ⟨F_law_text, B_law_text, PySem.W.mg_of X G a_law_text⟩,
    _, _, ⟨F_law_parts, B_law_parts, PySem.W.mg_of X G a_law_parts⟩,
    _, _, ⟨F_law_in, B_law_in, PySem.W.mg_of X G a_law_in⟩,
    _, _, ⟨F_law_many, B_law_many, PySem.W.mg_of X G a_law_many⟩,
    _, _, ⟨F_law_bent, B_law_bent, PySem.W.mg_of X G a_law_bent⟩,
    _, _, ⟨F_law_all_right, B_law_all_right, PySem.W.mg_of X G a_law_all_right⟩,
    _, _, ⟨F_law_two_right, B_law_two_right, PySem.W.mg_of X G a_law_two_right⟩,
    _, _, ⟨F_law_long_right, B_law_long_right, PySem.W.mg_of X G a_law_long_right⟩,
    _, _, ⟨F_law_right, B_law_right, PySem.W.mg_of X G a_law_right⟩,
    _, _, ⟨F_law, B_law, PySem.W.mg_of X G a_law⟩,
    PySem.W.mg_none_of X G z_abs,
    PySem.W.mg_none_of X G z_all,
    PySem.W.mg_none_of X G z_divmod,
    PySem.W.mg_none_of X G z_int,
    PySem.W.mg_none_of X G z_isinstance,
    PySem.W.mg_none_of X G z_len,
    PySem.W.mg_none_of X G z_list,
    PySem.W.mg_none_of X G z_max,
    PySem.W.mg_none_of X G z_min,
    PySem.W.mg_none_of X G z_range,
    PySem.W.mg_none_of X G z_repr,
    PySem.W.mg_none_of X G z_sorted,
    PySem.W.mg_none_of X G z_str,
    PySem.W.mg_none_of X G z_sum,
    PySem.W.mg_none_of X G z_tuple,
    ⟨_, PySem.W.mg_of X G y_SMALL⟩,
    ⟨_, PySem.W.mg_of X G y_MOST_LISTED⟩⟩, rfl, rfl⟩
end Lw
open PySem PySem.W PyProof.Rows
set_option maxRecDepth 100000 in
set_option maxHeartbeats 0 in
theorem PySem.Challenge.cw_missedparts_k11_whole_parts_of_texts_holds : PySem.Challenge.rw_missedparts_k11_whole_parts_of_texts.Holds := by
  w_on; o_law; k_head; (case hw => w_witness2)
  k_fill
  refine Att.attach_callB rfl rfl fun w s₀ s₁ mg mb fa o pm cd doc a vs ns G Y ho hd hcd hmg hobj hints hlen hbits hg => ?_
  have KX := PySem.W.km_in_of Y
  have GG := G.T.g
  refine' Lw.fin KX GG G.T.b G.T.builtins G.T.nolimit hg (PySem.W.km_tabs_of Y _ (List.mem_singleton.mpr rfl)) ?nT ?hC G.T.bmain hobj hints (Nat.le_trans hlen (by decide)) hmg (Lw.all_mk KX GG ?a_is_text ?l_is_text ?e_is_text ?k_is_text ?a_text_key ?l_text_key ?e_text_key ?k_text_key ?a_want_few ?l_want_few ?e_want_few ?k_want_few ?a_want_texts ?l_want_texts ?e_want_texts ?k_want_texts ?a_is_part_of ?l_is_part_of ?e_is_part_of ?k_is_part_of ?a_is_part ?l_is_part ?e_is_part ?k_is_part ?a_how_many_parts ?l_how_many_parts ?e_how_many_parts ?k_how_many_parts ?a_parts_to ?l_parts_to ?e_parts_to ?k_parts_to ?a_parts ?l_parts ?e_parts ?k_parts ?a_law_pot ?l_law_pot ?e_law_pot ?k_law_pot ?a_law_draw ?l_law_draw ?e_law_draw ?k_law_draw ?a_law_pick ?l_law_pick ?e_law_pick ?k_law_pick ?a_law_text ?l_law_text ?e_law_text ?k_law_text ?a_law_parts ?l_law_parts ?e_law_parts ?k_law_parts ?a_law_in ?l_law_in ?e_law_in ?k_law_in ?a_law_many ?l_law_many ?e_law_many ?k_law_many ?a_law_bent ?l_law_bent ?e_law_bent ?k_law_bent ?a_law_all_right ?l_law_all_right ?e_law_all_right ?k_law_all_right ?a_law_two_right ?l_law_two_right ?e_law_two_right ?k_law_two_right ?a_law_long_right ?l_law_long_right ?e_law_long_right ?k_law_long_right ?a_law_right ?l_law_right ?e_law_right ?k_law_right ?a_law ?l_law ?e_law ?k_law ?z_abs ?z_all ?z_divmod ?z_int ?z_isinstance ?z_len ?z_list ?z_max ?z_min ?z_range ?z_repr ?z_sorted ?z_str ?z_sum ?z_tuple ?y_SMALL ?y_MOST_LISTED)
  (case a_is_text => k_is); (case l_is_text => k_is); (case e_is_text => k_is); (case k_is_text => k_is); (case a_text_key => k_is); (case l_text_key => k_is); (case e_text_key => k_is); (case k_text_key => k_is); (case a_want_few => k_is); (case l_want_few => k_is); (case e_want_few => k_is); (case k_want_few => k_is); (case a_want_texts => k_is); (case l_want_texts => k_is); (case e_want_texts => k_is); (case k_want_texts => k_is); (case a_is_part_of => k_is); (case l_is_part_of => k_is); (case e_is_part_of => k_is); (case k_is_part_of => k_is); (case a_is_part => k_is); (case l_is_part => k_is); (case e_is_part => k_is); (case k_is_part => k_is); (case a_how_many_parts => k_is); (case l_how_many_parts => k_is); (case e_how_many_parts => k_is); (case k_how_many_parts => k_is); (case a_parts_to => k_is); (case l_parts_to => k_is); (case e_parts_to => k_is); (case k_parts_to => k_is); (case a_parts => k_is); (case l_parts => k_is); (case e_parts => k_is); (case k_parts => k_is); (case a_law_pot => k_is); (case l_law_pot => k_is); (case e_law_pot => k_is); (case k_law_pot => k_is); (case a_law_draw => k_is); (case l_law_draw => k_is); (case e_law_draw => k_is); (case k_law_draw => k_is); (case a_law_pick => k_is); (case l_law_pick => k_is); (case e_law_pick => k_is); (case k_law_pick => k_is); (case a_law_text => k_is); (case l_law_text => k_is); (case e_law_text => k_is); (case k_law_text => k_is); (case a_law_parts => k_is); (case l_law_parts => k_is); (case e_law_parts => k_is); (case k_law_parts => k_is); (case a_law_in => k_is); (case l_law_in => k_is); (case e_law_in => k_is); (case k_law_in => k_is); (case a_law_many => k_is); (case l_law_many => k_is); (case e_law_many => k_is); (case k_law_many => k_is); (case a_law_bent => k_is); (case l_law_bent => k_is); (case e_law_bent => k_is); (case k_law_bent => k_is); (case a_law_all_right => k_is); (case l_law_all_right => k_is); (case e_law_all_right => k_is); (case k_law_all_right => k_is); (case a_law_two_right => k_is); (case l_law_two_right => k_is); (case e_law_two_right => k_is); (case k_law_two_right => k_is); (case a_law_long_right => k_is); (case l_law_long_right => k_is); (case e_law_long_right => k_is); (case k_law_long_right => k_is); (case a_law_right => k_is); (case l_law_right => k_is); (case e_law_right => k_is); (case k_law_right => k_is); (case a_law => k_is); (case l_law => k_is); (case e_law => k_is); (case k_law => k_is); (case z_abs => k_is); (case z_all => k_is); (case z_divmod => k_is); (case z_int => k_is); (case z_isinstance => k_is); (case z_len => k_is); (case z_list => k_is); (case z_max => k_is); (case z_min => k_is); (case z_range => k_is); (case z_repr => k_is); (case z_sorted => k_is); (case z_str => k_is); (case z_sum => k_is); (case z_tuple => k_is); (case y_SMALL => k_is); (case y_MOST_LISTED => k_is)
  (case nT => kernel_rfl)
  (case hC => kernel_rfl)
