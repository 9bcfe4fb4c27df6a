import PyProof.Rows.All
import Wide.All
import OpenK.AllK
import Wide.FinOn
import HandS.ForMost
import HandS.SortKw
import HandS.EndTab
import HandS.IsInst
import HandS.StrMore
import HandS.TupLe
import HandS.WideBits
import HandS.Walk
import HandS.Deep
import HandS.ListItems
import HandS.Conv
import HandS.More
import PyProof.ReprRoads
import KE.SortKeyHeap
import KE.KDictCopyH
import PyProof.ReprLen
import KE.DataMinKey
import PySem.Challenge.RW_missedparts_k13_whole_common_parts_and_w
set_option Elab.async false
set_option linter.all false
set_option maxRecDepth 100000
set_option maxHeartbeats 4000000
/-! Defs that know that no repr is under way. -/
namespace L3
open PySem PySem.Spec PyProof.Rows L2
/-- as FnOk, where no guard stands around -/
structure FnOkG (P : Program) (w : World) (K : PySem.W.Frag) (mg : Str → Option Value) (base : Heap) (CX : CXT) (k : Nat) (f : Addr) (fd : FuncData) (ps : List Str) (sp : Sp) : Prop where
  len : ∀ vs H Q E, sp vs H Q E → vs.length = ps.length
  run : ∀ (A : Around) (outer : List Env) (s : Shared) (H : Hp) (args : Args) (us : List Value) (vs : List V) (Q : VK) (E : XK), Room k A → A.guards = some [] → Env0 P w K mg base A outer s H → BindsTo s fd args (ps.zip us) → Vals vs us → sp vs H Q E →
    codeAny (model P w) A (.call (.ref f) args) (CR CX outer P w H s Q E) s
theorem FnOkG.of {P : Program} {w : World} {K : PySem.W.Frag} {mg : Str → Option Value} {base : Heap} {CX : CXT} {k : Nat} {f : Addr} {fd : FuncData} {ps : List Str} {sp : Sp} (F : FnOk P w K mg base CX k f fd ps sp) : FnOkG P w K mg base CX k f fd ps sp :=
  ⟨F.len, fun A outer s H args us vs Q E hr _ => F.run A outer s H args us vs Q E hr⟩
theorem FnOkG.mono {P : Program} {w : World} {K : PySem.W.Frag} {mg : Str → Option Value} {base : Heap} {CX : CXT} {j k : Nat} {f : Addr} {fd : FuncData} {ps : List Str} {sp : Sp} (F : FnOkG P w K mg base CX j f fd ps sp) (h : j ≤ k) : FnOkG P w K mg base CX k f fd ps sp :=
  ⟨F.len, fun A outer s H args us vs Q E hr => F.run A outer s H args us vs Q E (hr.mono h)⟩
section
variable {P : Program} {w : World} {K : PySem.W.Frag} {mg : Str → Option Value} {base : Heap}
theorem fn_ofG {CX : CXT} {k : Nat} {f : Addr} {name qual : Str} {params : Arguments} {body : List Stmt} {scope : Scope} {dV kV doc pm cdv ct oc : Value} {an od : Option Addr}
    {osl : Array (Option Value)} {N ps : List Str} {sp : Sp} (lk : K.lookup f = some ⟨oc, od, .func (PySem.W.fnOf name qual params body scope dV kV doc pm an cdv ct), osl⟩) (hcd : PySem.W.codeIn K cdv qual = true) (S : FnScope N ps scope)
    (len : ∀ vs H Q E, sp vs H Q E → vs.length = ps.length)
    (hbody : ∀ (A : Around) (outer : List Env) (s : Shared) (H : Hp) (vs : List V) (Q : VK) (E : XK), Room k (A.deeper (envOfC qual scope s.heap.objs.size f cdv)) → A.guards = some [] → sp vs H Q E →
      ∃ t, PSs (cxOf CX P w K mg base N qual scope f cdv A outer s H E) body t ∧ t { nx := fun _ H' => Q .non H', rt := Q } (L2.start N vs) H) :
    FnOkG P w K mg base CX (k + 1) f (PySem.W.fnOf name qual params body scope dV kV doc pm an cdv ct) ps sp := by
  refine ⟨len, fun A outer s H args us vs Q E hr hg e0 hb r hsp => ?_⟩
  exact LamX.run_ofS lk hcd S hr e0 hb r (len _ _ _ _ hsp) fun hr' => hbody A outer s H vs Q E hr' hg hsp
theorem okG {x qual : Str} {st : Stmt} {f : Addr} {fd : FuncData} {N ps : List Str} {k : Nat} {sp : Sp} (F : Fun K x qual st f fd) (S : FnScope N ps (defScope st)) (len : ∀ vs H Q E, sp vs H Q E → vs.length = ps.length)
    (hbody : ∀ (cdv : Value) (A : Around) (outer : List Env) (s : Shared) (H : Hp) (vs : List V) (Q : VK) (E : XK), Room k (A.deeper (envOfC qual (defScope st) s.heap.objs.size f cdv)) → A.guards = some [] → sp vs H Q E →
      ∃ t, PSs (cxOf CX0 P w K mg base N qual (defScope st) f cdv A outer s H E).nox (defBody st) t ∧ t { nx := fun _ H' => Q .non H', rt := Q } (L2.start N vs) H) : FnOkG P w K mg base CX0 (k + 1) f fd ps sp := by
  obtain ⟨oc, od, kV, doc, pm, an, cdv, ct, osl, rfl, lk, hcd⟩ := F.ex
  refine fn_ofG lk hcd S len fun A outer s H vs Q E hr hg hsp => ?_
  obtain ⟨t, h, q⟩ := hbody cdv A outer s H vs Q E hr hg hsp
  exact ⟨t, h.nox, q⟩
end
section
variable {X : Cx} {CX : CXT} {k : Nat} {f : Addr} {fd : FuncData} {ps ks : List Str} {sp : Sp} {E : XK} {x : Str} {p pos : Pos} {e : Expr} {es : List Expr} {kws : List Keyword} {t tk : TA} {g : List Value → List Value → List Value} {gV : List V → List V → List V}
theorem run_fnG {pins : List (Addr × Obj)} {σ : L2.St} {H : Hp} {s : Shared} {Q : VK} {us ws : List Value} {vs : List V} {kw : List (Str × Value)} (F : FnOkG X.prog X.w X.K X.mg X.base CX k f fd ps sp) (hr : Room k X.A) (hG : X.A.guards = some []) (hx : Passes CX X E)
    (I : Inv X pins σ H s) (hb : BindsTo s fd ⟨us, kw⟩ (ps.zip ws)) (r : Vals vs ws) (h : sp vs H Q E) : wpAny (model X.prog X.w) X.A (call (.ref f) us kw) (EP X pins σ Q) X.xe s := by
  refine wpAny_call (codeAny_mono (F.run X.A X.stack s H ⟨us, kw⟩ ws vs Q E hr hG I.env0 hb r h) fun r s' hq => ?_)
  cases r with
  | error e => exact hx pins σ H s e s' I hq
  | ok fl =>
    cases fl with
    | ret u => exact I.after hq
    | next => exact False.elim hq
    | brk => exact False.elim hq
    | cont => exact False.elim hq
/-- f(e, ..) -/
theorem pe_callG (F : FnOkG X.prog X.w X.K X.mg X.base CX k f fd ps sp) (hr : Room k X.A) (hG : X.A.guards = some []) (hg : Gl X x) (hm : X.mg x = some (.ref f)) (hk : PySem.W.keepIn X.K (.ref f) = true) (hb : L2.Binds X.K fd ps []) (hx : Passes CX X E)
    (ha : PA X (e :: es) t) (hdb : (x == ("__debug__" : Str)) = false := by decide) (he : starEach (e :: es) X.env = (false, eval e X.env) :: starEach es X.env := by rfl) (hpl : (backTo pos (starEach es X.env)).any (·.1) = false := by rfl) :
    PE X (.Call (.Name x p) (e :: es) [] pos) (tCall sp [] E t) := by
  refine ⟨fun pins s σ H Q I h => ?_⟩
  refine wpAny_Call_Name_kw (ld_glob I hg hm ?_ hdb)
  refine PySem.W.callWith_K (h₀ := X.base) I.ok.mod.kin hk (thn (ha.run pos pins s σ H _ I h) fun us s1 ⟨vs, H1, I1, r, q⟩ => ⟨I1.kIn, ?_⟩) he hpl
  have q : sp (vs ++ []) H1 Q E := q
  rw [List.append_nil] at q
  have hl : (us ++ []).length = ps.length := by rw [List.append_nil, ← r.length]; exact F.len _ _ _ _ q
  exact run_fnG F hr hG hx I1 (hb s1 us I1.kIn hl) (by rw [List.append_nil]; exact r) q
/-- f(k = v, ..), keywords alone -/
theorem pe_callK0 (F : FnOkG X.prog X.w X.K X.mg X.base CX k f fd ps sp) (hr : Room k X.A) (hG : X.A.guards = some []) (hg : Gl X x) (hm : X.mg x = some (.ref f)) (hk : PySem.W.keepIn X.K (.ref f) = true) (hb : KBinds X.K fd ps ks g gV) (hx : Passes CX X E)
    (hkw : PK X kws tk) (hall : (backToKw pos (keywordEach kws X.env)).all (·.1.isSome) = true := by rfl) (hks : (backToKw pos (keywordEach kws X.env)).filterMap (·.1) = ks := by rfl)
    (hdb : (x == ("__debug__" : Str)) = false := by decide)
    (hpl : ((backTo pos (starEach [] X.env)).any (·.1) || (backToKw pos (keywordEach kws X.env)).any (·.1.isNone)) = false := by rfl) :
    PE X (.Call (.Name x p) [] kws pos) (tCallK sp gV E tNil tk) := by
  refine ⟨fun pins s σ H Q I h => ?_⟩
  refine wpAny_Call_Name_kw (ld_glob I hg hm ?_ hdb)
  refine PySem.W.callWith_KW0 (h₀ := X.base) I.ok.mod.kin hk hall (thn (hkw.run pos pins s σ H _ I h) fun ws s2 ⟨zs, H2, I2, rz, q2⟩ => ⟨I2.kIn, ?_⟩) hpl
  rw [hks]
  have r2 := hb.rel (vs := []) (us := []) .nil rz
  have hl : (g [] ws).length = ps.length := by rw [← r2.length]; exact F.len _ _ _ _ q2
  exact run_fnG F hr hG hx I2 (hb.to s2 [] ws I2.kIn hl) r2 q2
end
end L3
/-! Rules for texts as lists of codes, repr of data, list(text), list(d.values()). -/
namespace L3
open PySem PySem.Spec PyProof.Rows L2
/-- a text by its codes -/
abbrev tS (l : List Nat) : Str := ⟨l.toArray⟩
abbrev tx (l : List Nat) : V := .str (tS l)
theorem tS_len (l : List Nat) : (tS l).length = l.length := by show l.toArray.size = _; simp
theorem tS_inj {a b : List Nat} (h : tS a = tS b) : a = b := by
  have h2 : a.toArray = b.toArray := congrArg Str.cps h
  simpa using congrArg Array.toList h2
theorem tS_eq (x : Str) : x = tS x.cps.toList := by cases x; simp [tS]
theorem tS_app (a b : List Nat) : tS a ++ tS b = tS (a ++ b) := by
  show (⟨a.toArray ++ b.toArray⟩ : Str) = _
  simp
theorem tx_inj {a b : List Nat} (h : tx a = tx b) : a = b := tS_inj (V.str.inj h)
theorem tx_dec (a b : List Nat) : decide (tx a = tx b) = decide (a = b) := by
  by_cases e : a = b
  · subst e; simp
  · rw [decide_eq_false e, decide_eq_false fun h => e (tx_inj h)]
section
variable {X : Cx}
theorem op_addT : OpR X (binaryOp .Add) (fun x y H Q => ∃ a b, x = tx a ∧ y = tx b ∧ a.length + b.length ≤ sizeLine ∧ Q (tx (a ++ b)) H) := by
  intro pins s σ H x y v u Q I rx ry h
  obtain ⟨a, b, rfl, rfl, hz, q⟩ := h
  exact op_add_str pins s σ H _ _ v u Q I rx ry ⟨_, _, rfl, rfl, by rw [tS_len, tS_len]; exact hz, by rw [tS_app]; exact q⟩
/-- a * n -/
def repL : Nat → List Nat → List Nat
  | 0, _ => []
  | n + 1, l => l ++ repL n l
theorem repL_len (n : Nat) (l : List Nat) : (repL n l).length = n * l.length := by
  induction n with
  | zero => simp [repL]
  | succ n ih => rw [repL, List.length_append, ih, Nat.succ_mul]; omega
theorem fold_rep (l : List Nat) : ∀ (n : Nat) (acc : Array Nat), (List.replicate n l.toArray).foldl (· ++ ·) acc = acc ++ (repL n l).toArray
  | 0, acc => by simp [repL]
  | n + 1, acc => by
    rw [List.replicate_succ, List.foldl_cons, fold_rep l n, repL]
    simp
theorem mul_tS (l : List Nat) (n : Nat) : Txt.mul (tS l) (n : Int) = tS (repL n l) := by
  unfold Txt.mul
  by_cases h : (n : Int) < 1
  · rw [if_pos h]
    have e : n = 0 := by omega
    subst e
    rfl
  · rw [if_neg h]
    split
    · rename_i hc
      rw [Bool.or_eq_true] at hc
      rcases hc with hc | hc
      · have e : n = 1 := by
          have := of_decide_eq_true hc
          omega
        subst e
        simp [repL]
      · have e : (tS l).length = 0 := by simpa using hc
        rw [tS_len] at e
        have e2 : l = [] := List.eq_nil_of_length_eq_zero e
        subst e2
        have : ∀ n, repL n [] = [] := fun n => by
          induction n with
          | zero => rfl
          | succ n ih => rw [repL, ih]; rfl
        rw [this]
    · rw [Int.toNat_natCast, fold_rep]
      simp
theorem op_mulT : OpR X (binaryOp .Mult) (fun x y H Q => ∃ (a : List Nat) (n : Nat), x = tx a ∧ y = .int (n : Int) ∧ n ≤ 1000000 ∧ a.length * n ≤ 1000000 ∧ Q (tx (repL n a)) H) := by
  intro pins s σ H x y v u Q I rx ry h
  obtain ⟨a, n, rfl, rfl, hn, hz, q⟩ := h
  obtain ⟨t, rfl⟩ := rx
  obtain ⟨t', rfl⟩ := ry
  have e63 : (2 : Int) ^ 63 = 9223372036854775808 := by decide
  refine SB.mul ⟨?_, fun h1 _ => ?_, fun _ _ => ?_⟩ fun t' k => ?_
  · rw [e63]
    simp only [Bool.or_eq_false_iff, decide_eq_false_iff_not]
    omega
  · rw [e63, tS_len]
    have hp : (0 : Int) < (n : Int) := by omega
    have hz2 : (a.length : Int) * (n : Int) ≤ 1000000 := by rw [← Int.natCast_mul]; exact Int.ofNat_le.mpr hz
    have h3 : (a.length : Int) ≤ (9223372036854775808 - 1) / (n : Int) := (Int.le_ediv_iff_mul_le hp).mpr (by omega)
    omega
  · rw [tS_len, Int.toNat_natCast]
    show decide (a.length * n > sizeLine) = false
    rw [sizeLine_eq]
    exact decide_eq_false (by omega)
  · rw [mul_tS]
    exact ⟨tx (repL n a), H, I.tok _, ⟨_, rfl⟩, q⟩
/-! ### slices of texts -/
theorem cut_pre (l : List Nat) (i : Nat) : cutS (tS l) none (some (i : Int)) = tS (l.take i) := by
  unfold cutS
  rw [HT.sIx_none, HT.sIx_nat, tS_len]
  show tS _ = _
  congr 1
  show (List.drop 0 l).take (min i l.length - 0) = l.take i
  rw [List.drop_zero, Nat.sub_zero]
  by_cases h : i ≤ l.length
  · rw [Nat.min_eq_left h]
  · rw [Nat.min_eq_right (by omega), List.take_of_length_le (Nat.le_refl _), List.take_of_length_le (by omega)]
theorem cut_suf (l : List Nat) (i : Nat) : cutS (tS l) (some (i : Int)) none = tS (l.drop i) := by
  unfold cutS
  rw [HT.sIx_none, HT.sIx_nat, tS_len]
  show tS _ = _
  congr 1
  show (List.drop (min i l.length) l).take (l.length - min i l.length) = l.drop i
  by_cases h : i ≤ l.length
  · rw [Nat.min_eq_left h, List.take_of_length_le (by rw [List.length_drop]; exact Nat.le_refl _)]
  · rw [Nat.min_eq_right (by omega), List.drop_of_length_le (Nat.le_refl _), List.drop_of_length_le (by omega)]
    simp
def rSlT' : V → Option Int → Option Int → Hp → VK → Prop := fun x lo hi H Q => ∃ l, x = tx l ∧ l.length ≤ sizeLine ∧
  ((lo = none ∧ ∃ i : Nat, hi = some (i : Int) ∧ Q (tx (l.take i)) H) ∨ (hi = none ∧ ∃ i : Nat, lo = some (i : Int) ∧ Q (tx (l.drop i)) H))
theorem sl_tx : SlR X rSlT' := by
  intro pins s σ H x v vl vu lo hi sl Q I rx hs pl pu h
  obtain ⟨l, rfl, hz, h⟩ := h
  refine sl_str pins s σ H _ v vl vu lo hi sl Q I rx hs pl pu ⟨_, rfl, by rw [tS_len]; exact hz, ?_⟩
  rcases h with ⟨rfl, i, rfl, q⟩ | ⟨rfl, i, rfl, q⟩
  · rw [cut_pre]; exact q
  · rw [cut_suf]; exact q
/-! ### slices of texts with a step -/
def stepL (l : List Nat) (k : Int) : List Nat := (Builtin.Str.strSliceIndices none none k l.length).filterMap (l[·]?)
theorem stepL_mem {l : List Nat} {k : Int} {c : Nat} (h : c ∈ stepL l k) : c ∈ l := by
  unfold stepL at h
  obtain ⟨i, _, e⟩ := List.mem_filterMap.mp h
  exact List.mem_of_getElem? e
theorem filterMap_len {α β : Type} (f : α → Option β) : ∀ l : List α, (l.filterMap f).length ≤ l.length
  | [] => Nat.le_refl _
  | a :: l => by
    have := filterMap_len f l
    rw [List.filterMap_cons]
    split
    · rw [List.length_cons]; omega
    · rw [List.length_cons, List.length_cons]; omega
theorem stepL_two (l : List Nat) : (stepL l 2).length ≤ l.length := by
  refine Nat.le_trans (filterMap_len _ _) ?_
  show (sliceRange 0 (l.length : Int) 2).length ≤ l.length
  unfold sliceRange
  simp only [List.length_map, List.length_range]
  rw [if_pos (by decide : (2 : Int) > 0)]
  by_cases h : (0 : Int) < (l.length : Int)
  · rw [if_pos h]
    omega
  · rw [if_neg h]
    simp
theorem stepL_rev (l : List Nat) : stepL l (-1) = l.reverse := by
  unfold stepL Builtin.Str.strSliceIndices
  show (sliceRange ((l.length : Int) - 1) (-1) (-1)).filterMap (l[·]?) = _
  rw [PySem.W.krv_sliceRange, PySem.W.krv_range, List.filterMap_reverse]
  have h := PySem.W.krv_all l.toArray
  congr 1
  have e : (fun i : Nat => l[i]?) = (fun i : Nat => l.toArray[i]?) := by
    funext i
    simp
  rw [e]
  simpa using h
def tStep (k : Int) (te : TE) : TE := fun σ H Q => te σ H fun x H1 => ∃ l, x = tx l ∧ l.length ≤ sizeLine ∧ (stepL l k).length ≤ sizeLine ∧ Q (tx (stepL l k)) H1
theorem pe_step {e st : Expr} {te ts : TE} {k : Int} {p3 pos : Pos} (he : PE X e te) (hst : PE X st ts) (hk : ∀ σ H (Q : VK), Q (.int k) H → ts σ H Q) (k1 : (k == 1) = false) (k0 : (k == 0) = false) : PE X (.Subscript e (.Slice none none (some st) p3) pos) (tStep k te) := by
  refine ⟨fun pins s σ H Q I h => ?_⟩
  refine Subscript_ (thn (he.run pins s σ H _ I h) fun v s1 ⟨x, H1, I1, r1, q1⟩ => ?_)
  obtain ⟨l, ex, hz, hz2, q⟩ := q1
  subst ex
  obtain ⟨t, rfl⟩ := r1
  have hso : PO X (some st) (tPart ts) := po_some hst
  refine wpAny_Slice (thn (po_none.run pins s1 σ H1 (fun o H2 => o = none ∧ H2 = H1) I1 ⟨rfl, rfl⟩) fun vl s2 ⟨lo, H2, I2, pl, el, e2⟩ => ?_)
  subst el e2
  refine thn (po_none.run pins s2 σ H2 (fun o H3 => o = none ∧ H3 = H2) I2 ⟨rfl, rfl⟩) fun vu s3 ⟨u, H3, I3, pu, eu, e3⟩ => ?_
  subst eu e3
  refine thn (hso.run pins s3 σ H3 (fun o H4 => o = some k ∧ H4 = H3) I3 (hk _ _ _ ⟨k, rfl, rfl, rfl⟩)) fun vs s4 ⟨o, H4, I4, ps, eo, e4⟩ => ?_
  subst eo e4
  have I5 : Inv X pins σ H4 { s4 with heap := s4.heap.push { cls := .type "slice", data := .fields #[vl, vu, vs] } } := I4.kept (t' := s4.toks) fun b ob q => Heap.get?_push_of_some _ q
  show wpAny (model X.prog X.w) X.A (subscriptTail e (.Slice none none (some st) p3) (.str (tS l) t) (.ref s4.heap.objs.size)) (EP X pins σ Q) X.xe { s4 with heap := s4.heap.push { cls := .type "slice", data := .fields #[vl, vu, vs] } }
  refine tail_any (ops := [.ref s4.heap.objs.size, .str (tS l) t]) (typeIs_str _ _ _) (F.slot_str_getitem.lookup) ?_ (by with_unfolding_all rfl)
  obtain ⟨l', rfl, e1⟩ := IsPart.raw pl
  obtain ⟨u', rfl, e2⟩ := IsPart.raw pu
  obtain ⟨k', rfl, e3⟩ := IsPart.raw ps
  have n1 : l' = none := by cases l' with | none => rfl | some a => cases e1
  have n2 : u' = none := by cases u' with | none => rfl | some a => cases e2
  subst n1 n2
  have e4 : (k'.map (·.1)).getD 1 = k := by rw [e3]; rfl
  refine wpAny_getItem_str_slice (l := none) (u := none) (st := k') ⟨_, Heap.get?_push_size _ rfl, rfl, rfl⟩ (by rw [e4]; exact k0) ?_
  have e5 : sliceMade (tS l) t none none k' = .str (tS (stepL l k)) := by
    unfold sliceMade slicePicked
    rw [e4, k1, Bool.false_and, if_neg Bool.false_ne_true]
    unfold stepL
    rw [tS_len]
    have e6 : (fun i : Nat => (tS l).cps[i]?) = (fun i : Nat => l[i]?) := by
      funext i
      simp [tS]
    show Made.str (tS (List.filterMap (fun i : Nat => (tS l).cps[i]?) _)) = _
    rw [e6]
    rfl
  rw [e5]
  exact ⟨by rw [tS_len]; exact hz2, tx (stepL l k), H4, I5.tok _, ⟨_, rfl⟩, q⟩
end
end L3
/-! repr of data, list(text), list(d.values()). -/
namespace L3
open PySem PySem.Spec PyProof.Rows L2
mutual
theorem dp_noDict {K : PySem.W.Frag} {H : Hp} : ∀ {v : V} {d : PyData}, Dp K H v d → d.hasDict = false
  | _, .none, _ => by simp only [PyData.hasDict]
  | _, .bool _, _ => by simp only [PyData.hasDict]
  | _, .int _, _ => by simp only [PyData.hasDict]
  | _, .str _, _ => by simp only [PyData.hasDict]
  | _, .list ds, h => by
    cases h with
    | lst hs ha => simp only [PyData.hasDict]; exact dpAll_noDict ha
  | _, .tuple ds, h => by
    cases h with
    | tup hs ha => simp only [PyData.hasDict]; exact dpAll_noDict ha
  | _, .dict _, h => by cases h
theorem dpAll_noDict {K : PySem.W.Frag} {H : Hp} : ∀ {vs : List V} {ds : List PyData}, DpAll K H vs ds → PyData.hasDictAll ds = false
  | _, [], _ => by simp only [PyData.hasDictAll]
  | _, d :: ds, h => by
    cases h with
    | cons h1 h2 => simp only [PyData.hasDictAll, dp_noDict h1, dpAll_noDict h2, Bool.or_self]
end
theorem len_toL (acc : Array Value) : acc.toList.length = acc.size := by simp
section
variable {X : Cx}
/-- repr(x) of data: none, bools, ints, texts, lists, tuples -/
def rRepr (K : PySem.W.Frag) : List V → Hp → VK → Prop := fun xs H Q => ∃ (x : V) (d : PyData), xs = [x] ∧ Dp K H x d ∧ d.showable = true ∧ d.shown.length ≤ sizeLine ∧ d.depth ≤ 50 ∧ Q (.str d.shown) H
theorem call_reprD {k : Nat} (hr : Room k X.A) (hG : X.A.guards = some []) : CallR X (.builtin "repr") (rRepr X.K) := by
  intro pins s σ H xs us Q I r h
  obtain ⟨x, d, rfl, hd, hs, hz, hdp, q⟩ := h
  obtain ⟨u, rfl, rx⟩ := vals1 r
  have hu := hr.units
  cases hd with
  | non => cases rx; exact P.repr_of_none ⟨.str _, H, I.tok _, ⟨_, rfl⟩, q⟩
  | bl b => cases rx; exact P.repr_of_bool ⟨.str _, H, I.tok _, ⟨_, rfl⟩, q⟩
  | int i =>
    obtain ⟨t, rfl⟩ := rx
    have hs' : i.natAbs.log2 < 1920 := by simpa [PyData.showable] using hs
    exact P.repr_of_int hs' ⟨.str _, H, I.tok _, ⟨_, rfl⟩, q⟩
  | str z =>
    obtain ⟨t, rfl⟩ := rx
    exact P.repr_of_str ⟨.str _, H, I.tok _, ⟨_, rfl⟩, q⟩ hz
  | @lst a xs ds hq ha =>
    cases rx
    obtain ⟨as, hR⟩ := Dp.reads I (.list ds) (.ref a) (.ref a) (.lst hq ha) rfl
    refine repr_of_reads' hR hs (PyData.noDict_hsm (dp_noDict (K := X.K) (H := H) (.lst hq ha))) hG (by omega) (fun _ _ e => e) (fun h' t tk hk => ?_) hz
    exact ⟨.str _, H, I.kept hk, ⟨_, rfl⟩, q⟩
  | @tup a xs ds hq ha =>
    cases rx
    obtain ⟨as, hR⟩ := Dp.reads I (.tuple ds) (.ref a) (.ref a) (.tup hq ha) rfl
    refine repr_of_reads' hR hs (PyData.noDict_hsm (dp_noDict (K := X.K) (H := H) (.tup hq ha))) hG (by omega) (fun _ _ e => e) (fun h' t tk hk => ?_) hz
    exact ⟨.str _, H, I.kept hk, ⟨_, rfl⟩, q⟩
/-- list(text) -/
theorem call_listT (hc : X.calm = true) : CallR X (.type "list") (fun xs H Q => ∃ l, xs = [tx l] ∧ l.length ≤ sizeLine ∧ ∀ p, H p = none → Q (.ref p) (upd H p (.lst (l.map fun c => tx [c])))) := by
  intro pins s σ H xs us Q I r h
  obtain ⟨l, rfl, hz, q⟩ := h
  obtain ⟨u, rfl, rx⟩ := vals1 r
  obtain ⟨t, rfl⟩ := rx
  refine call_list_str (I.ok.hd hc) (tS l) t (fun h' tk acc c hk hS hacc => ?_) (by show l.toArray.size ≤ _; simpa using hz)
  have hl : acc.size = l.length := by rw [hacc.1]; simp [tS]
  have hv : Vals (l.map fun c => tx [c]) acc.toList := vals_of_at (by rw [List.length_map, len_toL, hl]) fun j x w h1 h2 => by
    obtain ⟨c, t, e1, e2⟩ := hacc.2 j w (by rw [← Array.getElem?_toList]; exact h2)
    have e3 : l[j]? = some c := by simpa [tS] using e1
    rw [List.getElem?_map, e3] at h1
    cases h1
    subst e2
    exact ⟨t, rfl⟩
  exact ⟨.ref s.heap.objs.size, upd H s.heap.objs.size (.lst (l.map fun c => tx [c])), I.laid (t' := tk) hk (Nat.le_refl _)
    (show ObjOk X.prog X.w _ _ _ (.lst (l.map fun c => tx [c])) from ⟨by rw [List.length_map]; exact hz, acc.toList, c, hv, by rw [Array.toArray_toList]; exact hS⟩), rfl, q _ (I.hok.fresh (Nat.le_refl _))⟩
def tListVals (te : TE) : TE := fun σ H Q => te σ H fun x H1 => ∃ (d : Addr) (kvs : List (Key × V)), x = .ref d ∧ H1 d = some (.dK kvs) ∧ ∀ p, H1 p = none → Q (.ref p) (upd H1 p (.lst (kvs.map (·.2))))
/-- list(e.values()) -/
theorem pe_listVals {e : Expr} {te : TE} {p apos cpos pos : Pos} (hc : X.calm = true) (he : PE X e te) (hg : Gl X "list") (hm : X.mg "list" = none) (hv : bootBuiltins "list" = some (.type "list")) (hbase : attributeBase e "values" X.env (eval e X.env) = eval e X.env := by rfl) (hline : (apos.endLine == cpos.line) = true := by rfl)
    (hs : starEach [.Call (.Attribute e "values" apos) [] [] cpos] X.env = (false, eval (.Call (.Attribute e "values" apos) [] [] cpos) X.env) :: starEach [] X.env := by rfl) :
    PE X (.Call (.Name "list" p) [.Call (.Attribute e "values" apos) [] [] cpos] [] pos) (tListVals te) := by
  refine ⟨fun pins s σ H Q I hq => ?_⟩
  refine wpAny_Call_Name_kw (ld_blt I hg hm hv ?_)
  refine PyProof.Rows.callWith_type1 ?_ hs rfl
  rw [hs]
  show wpAny _ _ (spliced ((false, eval (.Call (.Attribute e "values" apos) [] [] cpos) X.env) :: backTo pos (starEach [] X.env))) _ _ s
  refine Calls.spliced_cons ?_
  refine wpAny_Call_method (T := "dict") (id := "dict.values") hbase rfl hline F.plainAttrs_dict F.slot_dict_values F.type_dict_values (thn (he.run pins s σ H _ I hq) fun u s1 ⟨x, H1, I1, rx, d, kvs, ex, hd, q⟩ => ?_)
  subst ex
  obtain rfl : u = Value.ref d := rx
  obtain ⟨hz, hs0, vs, kv, hdo⟩ := I1.hok d _ hd
  obtain ⟨ep, hat⟩ := hdo.dictAt
  have lk : kvs.length = vs.length := Paired.length kv
  have I2 : Inv X pins σ H1 { s1 with heap := s1.heap.push { cls := .type "dict_values", data := .fields #[.ref d] } } := I1.kept (t' := s1.toks) fun b ob q => Heap.get?_push_of_some _ q
  refine ⟨hdo.typeIs, hdo.mapOf.noDict, ?_⟩
  show wpAny _ _ (callWith cpos (.builtin "dict.values") [.ref d] [] []) _ X.xe s1
  refine method_meetsIn F.slot_dict_values F.entry_dict_values rfl (PySem.evalArgs_none ⟨rfl, hdo.typeIs, F.args_dict_values_1 _, _, meets_dict_values (mixKind X.prog X.w) d hs0, ⟨vs, hdo⟩, ?_⟩)
  refine Calls.spliced_nil ?_
  refine PySem.W.kdl_call (PySem.W.kdl_values (knd := mixKind X.prog X.w) (kvs := vs) (ep := ep) (d := d)) (I1.ok.hd hc) ⟨⟨_, Heap.get?_push_size _ rfl, rfl, rfl⟩, hat.push _⟩ (by omega) fun h' tk acc c' hk hD hacc => ?_
  have hvv : Vals (kvs.map (·.2)) acc.toList := vals_of_at (by rw [List.length_map, len_toL, hacc.1, lk]) fun j x w h1 h2 => by
    obtain ⟨k, e1⟩ := hacc.2 j w (by rw [← Array.getElem?_toList]; exact h2)
    rw [List.getElem?_map] at h1
    cases e3 : kvs[j]? with
    | none => rw [e3] at h1; cases h1
    | some kx =>
      rw [e3] at h1
      cases h1
      obtain ⟨qv, g1, g2, g3⟩ := LiI.paired_get kv e3
      rw [e1] at g1
      cases g1
      exact g3
  exact ⟨.ref _, upd H1 _ (.lst (kvs.map (·.2))), I2.laid (t' := tk) hk (Nat.le_refl _)
    (show ObjOk X.prog X.w _ _ _ (.lst (kvs.map (·.2))) from ⟨by rw [List.length_map]; exact hz, acc.toList, c', hvv, by rw [Array.toArray_toList]; exact hD⟩), rfl, q _ (I2.hok.fresh (Nat.le_refl _))⟩
end
end L3
/-! sorted(texts, key=f), f giving pairs of an int and a text. -/
namespace L3
open PySem PySem.Spec PyProof.Rows L2
/-- a key: an int and a text -/
abbrev KF := List Nat → Int × List Nat
def kD (kf : KF) (l : List Nat) : PyData := .tuple [.int (kf l).1, .str (tS (kf l).2)]
/-- the sorted list -/
def sortT (kf : KF) (ts : List (List Nat)) : List (List Nat) := ts.mergeSort (PySem.W.dataLe false (kD kf))
theorem sortT_perm (kf : KF) (ts : List (List Nat)) : (sortT kf ts).Perm ts := List.mergeSort_perm _ _
theorem kD_alike (kf : KF) (a b : List Nat) : PySem.W.alike (kD kf a) (kD kf b) = true := by simp [kD, PySem.W.alike, PySem.W.alikeAll]
section
variable {X : Cx} {pins : List (Addr × Obj)} {σ : L2.St} {H : Hp} {s : Shared}
/-- calls of f give the keys, nothing else is touched -/
def KCall (X : Cx) (pins : List (Addr × Obj)) (H0 : Hp) (f : Value) (kf : KF) : Prop := ∀ (s : Shared) (σ : L2.St) (H : Hp) (l : List Nat) (t : Tok), L2.Inv X pins σ H s → Same H0 H → l.length ≤ sizeLine →
  wpAny (model X.prog X.w) X.A.in1.in1 (call f [.str (tS l) t]) (fun u s' => ∃ p H', s'.os = s.os ∧ AllBare s'.gens ∧ Un (frs X.stack) [] H H' s.heap s'.heap ∧ HOk X.prog X.w H' s'.heap ∧ Same H H' ∧ u = .ref p ∧ H' p = some (.tup [.int (kf l).1, tx (kf l).2])) (fun _ _ => False) s
/-- an address above the heap: what Inv.turned asks -/
theorem above_ok {it : Addr} (I : L2.Inv X pins σ H s) (h : s.heap.objs.size ≤ it) : it ≠ X.env.locals ∧ (it ∈ X.ex ∨ X.s_0.heap.objs.size ≤ it) ∧ (∀ x c, X.env.cells.lookup x = some c → c ≠ it) ∧ (∀ p ∈ X.pn ++ pins, p.1 ≠ it) ∧ it ∉ frs X.stack := by
  refine ⟨fun e => ?_, .inr (Nat.le_trans I.sz h), fun x c hc e => ?_, fun p hp e => ?_, fun hb => ?_⟩
  · have := I.lt
    rw [← e] at this
    exact Nat.lt_irrefl _ (Nat.lt_of_lt_of_le this h)
  · obtain ⟨v, o, ho, _⟩ := I.cell x c hc
    have := Heap.lt_size ho
    rw [e] at this
    exact Nat.lt_irrefl _ (Nat.lt_of_lt_of_le this h)
  · have := Heap.lt_size (I.pin p hp).1
    rw [e] at this
    exact Nat.lt_irrefl _ (Nat.lt_of_lt_of_le this h)
  · rcases List.mem_cons.mp (I.stkSub _ hb) with e | e
    · have := I.lt
      rw [← e] at this
      exact Nat.lt_irrefl _ (Nat.lt_of_lt_of_le this h)
    · exact I.nofs h e
theorem each_strs : ∀ {ts : List (List Nat)} {vs : List Value}, Vals (ts.map tx) vs → PySem.W.EachIs (fun v l => ∃ t, v = Value.str (tS l) t) vs ts
  | [], _, r => by cases r; exact .nil
  | _ :: _, _, r => by
    cases r with
    | cons r1 r2 => exact .cons r1 (each_strs r2)
theorem vals_each : ∀ {ts : List (List Nat)} {vs : List Value}, PySem.W.EachIs (fun v l => ∃ t, v = Value.str (tS l) t) vs ts → Vals (ts.map tx) vs
  | _, _, .nil => .nil
  | _, _, .cons h t => .cons h (vals_each t)
/-- the body of list.sort with key, at the new list a -/
theorem key_rest {f : Value} {kf : KF} {a kS : Addr} {e1 : Nat} {ts : List (List Nat)} {vs : List Value} {P : PySem.Fin → Shared → Prop} {E : Value → Shared → Prop} {k : Nat} (hr : Room k X.A) (hK : KCall X pins H f kf) (I : L2.Inv X pins σ H s) (rv : Vals (ts.map tx) vs) (hz : ts.length ≤ sizeLine) (hl : ∀ l ∈ ts, l.length ≤ sizeLine)
    (Ha : H a = none) (HkS : H kS = none) (hka : kS ≠ a)
    (ok1 : a ≠ X.env.locals ∧ (a ∈ X.ex ∨ X.s_0.heap.objs.size ≤ a) ∧ (∀ x c, X.env.cells.lookup x = some c → c ≠ a) ∧ (∀ p ∈ X.pn ++ pins, p.1 ≠ a) ∧ a ∉ frs X.stack)
    (ok2 : kS ≠ X.env.locals ∧ (kS ∈ X.ex ∨ X.s_0.heap.objs.size ≤ kS) ∧ (∀ x c, X.env.cells.lookup x = some c → c ≠ kS) ∧ (∀ p ∈ X.pn ++ pins, p.1 ≠ kS) ∧ kS ∉ frs X.stack)
    (nk : s.heap.get? kS = some (seqObj "list" #[] 0)) (na : s.heap.get? a = some (seqObj "list" #[] e1))
    (h : ∀ s' H', L2.Inv X pins σ (upd H' a (.lst ((sortT kf ts).map tx))) s' → Same H H' → H' a = none → P (.done (.ret .none)) s') :
    wpAny (model X.prog X.w) X.A.in1.in1 (ksk_rest a f false vs.toArray e1 (.ref kS)) P E s := by
  have hlen : vs.length = ts.length := by rw [← rv.length, List.length_map]
  have eS := each_strs rv
  unfold ksk_rest
  refine wpAny_bind (wpAny_rule ?_)
  rw [List.forIn_toArray]
  refine wpAny_bind (ksk_fold (fun i s' => ∃ H' kA e, L2.Inv X pins σ H' s' ∧ Same H H' ∧ H' a = none ∧ H' kS = none ∧ s'.heap.get? kS = some (seqObj "list" kA e) ∧ s'.heap.get? a = some (seqObj "list" #[] e1) ∧
      PySem.W.EachIs (fun (v : Value) (l : List Nat) => ∃ p, v = Value.ref p ∧ H' p = some (.tup [.int (kf l).1, tx (kf l).2])) kA.toList (ts.take i)) vs 0 s
    ⟨H, #[], 0, I, Same.refl H, Ha, HkS, nk, na, by rw [List.take_zero]; exact .nil⟩ ?step ?done)
  case step =>
    rintro j x s' hx ⟨H', kA, e, I', sm, ha', hk', nk', na', hk⟩
    simp only [Nat.zero_add] at hk ⊢
    have hj : j < vs.length := (List.getElem?_eq_some_iff.mp hx).1
    obtain ⟨l, hlj⟩ : ∃ l, ts[j]? = some l := ⟨_, List.getElem?_eq_getElem (by omega)⟩
    have hxt : ∃ t, x = Value.str (tS l) t := eS.zip (x, l) (List.mem_of_getElem? (i := j) (by rw [List.getElem?_zip_eq_some]; exact ⟨hx, hlj⟩))
    obtain ⟨t, rfl⟩ := hxt
    have hzA : kA.size ≤ vs.length := by
      have h1 := hk.length
      rw [Array.length_toList, List.length_take] at h1
      omega
    refine wpAny_bind (wpAny_attempt (wpAny_mono (hK s' σ H' l t I' sm (hl l (List.mem_of_getElem? hlj))) (fun v s'' he => ?_) fun _ _ hF => hF.elim))
    obtain ⟨p, H2, os2, bare2, un2, hok2, sm2, rfl, hp⟩ := he
    have I2 : L2.Inv X pins σ H2 s'' := I'.call' os2 un2 hok2 bare2 fun b z => absurd z (by simp)
    have nk2 := un2.keep kS _ nk' hk' ok2.2.2.2.2 (by simp)
    have na2 := un2.keep a _ na' ha' ok1.2.2.2.2 (by simp)
    have hk2 := un2.free kS _ nk' hk' (by simp)
    have ha2 := un2.free a _ na' ha' (by simp)
    have s1 := Heap.SameBut.update s''.heap kS (Obj.mapSeq (·.push (Value.ref p)))
    obtain ⟨c2, hc2⟩ : ∃ c2, (s''.heap.update kS (Obj.mapSeq (·.push (Value.ref p)))).get? kS = some (seqObj "list" (kA.push (Value.ref p)) c2) := ⟨_, get?_update_seq nk2 (·.push (Value.ref p))⟩
    have ek : ts.take (j + 1) = ts.take j ++ [l] := by rw [List.take_add_one, hlj]; simp
    have ea : (kA.push (Value.ref p)).toList = kA.toList ++ [Value.ref p] := by simp
    refine wpAny_bind (listUpdate_at nk2 rfl ?_ (by omega) (by rw [Array.size_push]; omega))
    refine wpAny_pure ⟨rfl, H2, kA.push (Value.ref p), c2, I2.turned (t' := s''.toks) (fun b o hb e => (s1.2 b hb).trans e) hk2 ok2.1 ok2.2.1 ok2.2.2.1 ok2.2.2.2.1, sm.trans sm2, ha2, hk2, hc2, (s1.2 a hka.symm).trans na2, ?_⟩
    rw [ea, ek]
    refine PySem.W.each_snoc ⟨p, rfl, hp⟩ (hk.mono fun v l' q => ?_)
    obtain ⟨p', e', q'⟩ := q
    exact ⟨p', e', sm2 _ _ q'⟩
  case done =>
    rintro s' ⟨H', kA, e, I', sm, ha', hk', nk', na', hk⟩
    have e3 : ts.take (0 + vs.length) = ts := List.take_of_length_le (by omega)
    rw [e3] at hk
    have hsz : kA.size = vs.length := by
      have h1 := hk.length
      rw [Array.length_toList] at h1
      omega
    have hR : PySem.W.EachIs (fun v k => ∃ as, Reads s'.heap v k as) kA.toList (ts.map (kD kf)) := by
      refine PySem.W.each_map (kD kf) (hk.mono fun v l q => ?_)
      obtain ⟨p, rfl, hp⟩ := q
      obtain ⟨_, its, r, o, ho, hc, n, hd⟩ := I'.hok p _ hp
      cases r with
      | cons r1 r2 =>
        cases r2 with
        | cons r2 r3 =>
          cases r3
          obtain ⟨t1, rfl⟩ := r1
          obtain ⟨t2, rfl⟩ := r2
          exact ⟨_, .tuple ho hc hd (.cons (.int _ _) (.cons (.str _ _) .nil))⟩
    try dsimp only
    refine wpAny_bind (listItems_at nk' rfl ?_)
    have hal : PySem.W.AllAlike (ts.map (kD kf)) := PySem.W.AllAlike.of (kD_alike kf)
    have hsk : PySem.W.Sortable (ts.map (kD kf)) := PySem.W.Sortable.tuples fun b => ⟨_, _, rfl⟩
    have hu := hr.units
    have hS := PySem.W.SortsAt.data (prog := X.prog) (w := X.w) (A := X.A.in1.in1) (s := s') hR hal hsk (fun d hd => by
      obtain ⟨l, _, rfl⟩ := List.mem_map.mp hd
      show X.A.units + 1 + 1 + (kD kf l).depth < cLine
      have : (kD kf l).depth ≤ 2 := by simp [kD, PyData.depth, PyData.depthAll]
      omega)
    refine PySem.W.keyH_end (h₁ := PySem.W.hideAll s'.heap [kS]) (fun b o _ q => PySem.W.of_hideAll _ q) (PySem.W.hideAll_none _ (by simp)) nk' na' hka hS hsz (by omega) fun h' tk c kp hD => ?_
    have ko : PySem.W.KeyedOut false (ts.map (kD kf)) vs (PySem.W.sortVals (PySem.W.dataKind s'.heap (ts.map (kD kf))) false kA.toList vs) := ⟨s'.heap, kA.toList, hal, rfl, hR⟩
    have hout := PySem.W.keyedOut_each (kD kf) ko eS
    have kp' : ∀ b o, b ≠ a → b ≠ kS → s'.heap.get? b = some o → h'.get? b = some o := fun b o h1 h2 q => kp b o h1 (PySem.W.hideAll_get _ q (by simpa using h2))
    have nt : ∀ b u, H' b = some u → b ≠ a ∧ b ≠ kS := fun b u q => ⟨ne_of_none q ha', ne_of_none q hk'⟩
    have hlen2 : (sortT kf ts).length = ts.length := (sortT_perm kf ts).length_eq
    refine h _ H' (I'.call' (ch := [kS, a]) (s' := { s' with heap := h', toks := tk }) rfl ⟨?_, ?_, ?_, ?_, ?_, ?_, ?_⟩ ?_ I'.bare ?_) sm ha'
    · intro b o q n _ hx
      simp only [List.mem_cons, List.not_mem_nil, or_false, not_or] at hx
      exact kp' b o hx.2 hx.1 q
    · intro b o q n _ hx
      simp only [List.mem_cons, List.not_mem_nil, or_false, not_or] at hx
      exact ⟨o.slots, kp' b o hx.2 hx.1 q⟩
    · intro b o q n hx
      simp only [List.mem_cons, List.not_mem_nil, or_false, not_or] at hx
      rw [upd_ne hx.2]
      exact n
    · intro b o q hx
      simp only [List.mem_cons, List.not_mem_nil, or_false, not_or] at hx
      exact ⟨o, kp' b o hx.2 hx.1 q⟩
    · intro b xs q
      rw [upd_ne (nt b _ q).1]
      exact q
    · intro b o u q
      rw [upd_ne (nt b _ q).1]
      exact q
    · intro b ps q
      refine ⟨#[], ?_⟩
      rw [upd_ne (nt b _ q).1, q]
      simp
    · intro b u q
      by_cases hb : b = a
      · subst hb
        rw [upd_same] at q
        cases q
        exact ⟨by rw [List.length_map, hlen2]; exact hz, _, c, vals_each hout, hD⟩
      · rw [upd_ne hb] at q
        refine (I'.hok b u q).stay (fun d v hd q' => ?_) (fun d q' => by rw [upd_ne (nt d _ q').1]; exact q') fun d xs q' => by rw [upd_ne (nt d _ q').1]; exact q'
        rcases hd with rfl | hd
        · exact kp' _ _ (nt _ _ q).1 (nt _ _ q).2 q'
        · exact kp' _ _ (nt _ _ hd).1 (nt _ _ hd).2 q'
    · intro b hb
      simp only [List.mem_cons, List.not_mem_nil, or_false] at hb
      rcases hb with rfl | rfl
      · exact ⟨ok2.2.1, ok2.1, ok2.2.2.1, ok2.2.2.2.1⟩
      · exact ⟨ok1.2.1, ok1.1, ok1.2.2.1, ok1.2.2.2.1⟩
/-- list.sort(a, key=f) on the new list a (not tracked), as sorted does it -/
theorem key_tree {f : Value} {kf : KF} {a : Addr} {n : Nat} {ts : List (List Nat)} {vs : List Value} {P : PySem.Fin → Shared → Prop} {E : Value → Shared → Prop} {k : Nat} (hr : Room k X.A) (hK : KCall X pins H f kf) (I : L2.Inv X pins σ H s) (rv : Vals (ts.map tx) vs) (hz : ts.length ≤ sizeLine) (hl : ∀ l ∈ ts, l.length ≤ sizeLine)
    (Ha : H a = none) (ho : s.heap.get? a = some (seqObj "list" vs.toArray n))
    (ok1 : a ≠ X.env.locals ∧ (a ∈ X.ex ∨ X.s_0.heap.objs.size ≤ a) ∧ (∀ x c, X.env.cells.lookup x = some c → c ≠ a) ∧ (∀ p ∈ X.pn ++ pins, p.1 ≠ a) ∧ a ∉ frs X.stack)
    (h : ∀ s' H', L2.Inv X pins σ (upd H' a (.lst ((sortT kf ts).map tx))) s' → Same H H' → H' a = none → P (.done (.ret .none)) s') :
    wpAny (model X.prog X.w) X.A.in1.in1 (ksk_tree a f false) P E s := by
  have hlen : vs.length = ts.length := by rw [← rv.length, List.length_map]
  have hZ : vs.length ≤ sizeLine := by omega
  have hlt : a < s.heap.objs.size := Heap.lt_size ho
  obtain ⟨e1, ho1⟩ : ∃ e1, (s.heap.update a (Obj.mapSeq fun _ => (#[] : Array Value))).get? a = some (seqObj "list" #[] e1) := ⟨_, get?_update_seq ho fun _ => #[]⟩
  have hkS : ((s.heap.update a (Obj.mapSeq fun _ => (#[] : Array Value))).push (seqObj "tuple" vs.toArray 0)).objs.size = s.heap.objs.size + 1 := by rw [size_push', Heap.size_update]
  have s1 := Heap.SameBut.update s.heap a (Obj.mapSeq fun _ => (#[] : Array Value))
  have I1 : L2.Inv X pins σ H { s with heap := s.heap.update a (Obj.mapSeq fun _ => (#[] : Array Value)) } := I.turned (t' := s.toks) (fun b o hb e => (s1.2 b hb).trans e) Ha ok1.1 ok1.2.1 ok1.2.2.1 ok1.2.2.2.1
  have I3 : L2.Inv X pins σ H { s with heap := ((s.heap.update a (Obj.mapSeq fun _ => (#[] : Array Value))).push (seqObj "tuple" vs.toArray 0)).push (seqObj "list" #[] 0) } :=
    I1.kept (t' := s.toks) fun b o e => Heap.get?_push_of_some _ (Heap.get?_push_of_some _ e)
  have up := above_ok (it := s.heap.objs.size + 1) I (Nat.le_succ _)
  unfold ksk_tree
  refine wpAny_bind (listItems_at ho rfl ?_)
  refine wpAny_bind (listUpdate_at ho rfl ?_ (by rw [List.size_toArray]; exact hZ) (Nat.zero_le _))
  refine wpAny_bind (seqEpoch_at ho1 rfl ?_)
  refine wpAny_bind (wpAny_newTuple ?_ (by show vs.length ≤ _; exact hZ))
  refine wpAny_bind (wpAny_newList ?_ (Nat.zero_le _))
  refine wpAny_holding ?_
  have nkS : (((s.heap.update a (Obj.mapSeq fun _ => (#[] : Array Value))).push (seqObj "tuple" vs.toArray 0)).push (seqObj "list" #[] 0)).get? (s.heap.objs.size + 1) = some (seqObj "list" #[] 0) := by
    rw [← hkS]; exact Heap.get?_push_size _ rfl
  show wpAny (model X.prog X.w) X.A.in1.in1 (ksk_rest a f false vs.toArray e1 (.ref ((s.heap.update a (Obj.mapSeq fun _ => (#[] : Array Value))).push (seqObj "tuple" vs.toArray 0)).objs.size)) P E { s with heap := ((s.heap.update a (Obj.mapSeq fun _ => (#[] : Array Value))).push (seqObj "tuple" vs.toArray 0)).push (seqObj "list" #[] 0) }
  rw [hkS]
  exact key_rest hr hK I3 rv hz hl Ha (I.hok.fresh (Nat.le_succ _)) (Nat.ne_of_gt (Nat.lt_succ_of_lt hlt)) ok1 up nkS (Heap.get?_push_of_some _ (Heap.get?_push_of_some _ ho1)) h
/-- sorted(l, key=f), l a list of texts -/
theorem sorted_key {f : Value} {kf : KF} {l : Addr} {ts : List (List Nat)} {Q : VK} {k : Nat} (hr : Room k X.A) (hf : ∀ x, Builtin.«list.sort» ⟨[.ref x], [(Str.ofString "key", f)]⟩ = ksk_tree x f false) (hK : KCall X pins H f kf) (I : L2.Inv X pins σ H s) (hS : SqL X.K H l (ts.map tx)) (hl : ∀ l ∈ ts, l.length ≤ sizeLine)
    (q : ∀ H' p, Same H H' → H p = none → H' p = some (.lst ((sortT kf ts).map tx)) → Q (.ref p) H') :
    wpAny (model X.prog X.w) X.A (call (.builtin "sorted") [.ref l] [(Str.ofString "key", f)]) (EP X pins σ Q) X.xe s := by
  obtain ⟨its, rv, hL, hz⟩ := I.list hS
  have hlen := rv.length
  rw [List.length_map] at hz
  refine PySem.W.sorted_of_sort hL.isList (by rw [← hlen, List.length_map]; exact hz) (PyProof.Rows.ksk_s1 _ _) (fun _ => PyProof.Rows.ksk_l1 _ _) fun E' => ?_
  rw [hf]
  have I1 : L2.Inv X pins σ H { s with heap := PySem.W.copyHeap s.heap its } := I.kept (t' := s.toks) fun b o e => PySem.W.copyHeap_old e
  have hn : H (s.heap.objs.size + 1) = none := I.hok.fresh (Nat.le_succ _)
  refine key_tree hr hK I1 rv hz hl hn (PySem.W.copyHeap_at s.heap its) (above_ok (it := s.heap.objs.size + 1) I (Nat.le_succ _)) fun s' H' I' sm ha => ⟨rfl, ?_⟩
  refine ⟨.ref _, _, I', rfl, q _ _ (fun b o e => ?_) hn upd_same⟩
  rw [upd_ne (ne_of_none e hn)]
  exact sm b o e
end
end L3
namespace L3
open PySem PySem.Spec PyProof.Rows L2
section
variable {X : Cx} {pins : List (Addr × Obj)} {σ : L2.St} {H : Hp} {s : Shared}
/-- sorted(d, key=f), d a dict whose keys are texts -/
theorem sorted_keyD {f : Value} {kf : KF} {d : Addr} {kvs : List (Key × V)} {ts : List (List Nat)} {Q : VK} {k : Nat} (hc : X.calm = true) (hr : Room k X.A) (hf : ∀ x, Builtin.«list.sort» ⟨[.ref x], [(Str.ofString "key", f)]⟩ = ksk_tree x f false) (hK : KCall X pins H f kf) (I : L2.Inv X pins σ H s)
    (hd : H d = some (.dK kvs)) (hks : kvs.map (·.1) = ts.map fun l => Sum.inr (tS l)) (hl : ∀ l ∈ ts, l.length ≤ sizeLine)
    (q : ∀ H' p, Same H H' → H p = none → H' p = some (.lst ((sortT kf ts).map tx)) → Q (.ref p) H') :
    wpAny (model X.prog X.w) X.A (call (.builtin "sorted") [.ref d] [(Str.ofString "key", f)]) (EP X pins σ Q) X.xe s := by
  obtain ⟨z, lo, vs, rel, dd⟩ := I.hok d _ hd
  obtain ⟨ep, hat⟩ := dd.dictAt
  have lk : kvs.length = vs.length := Paired.length rel
  have lt : kvs.length = ts.length := by
    have e := congrArg List.length hks
    rwa [List.length_map, List.length_map] at e
  have hkeys : vs.map (·.1) = ts.map fun l => Sum.inr (tS l) := (KV.keys rel).symm.trans hks
  refine call_function_entry_kw kind_sorted plain_sorted entry_sorted (PyProof.Rows.ksk_s1 _ _) ?_
  unfold Builtin.«sorted»
  refine wpAny_bind (m := checkCount "sorted" 1 1 _) (wpAny_pure ?_)
  refine wpAny_bind (PySem.W.kdu_collect (A := X.A.in1) (PySem.W.kdl_dict (knd := mixKind X.prog X.w) (kvs := vs) (ep := ep) lo) (I.ok.hd hc) hat (by omega) fun h' tk acc hk hacc => ?_)
  have hal : acc.toList.length = ts.length := by rw [len_toL, hacc.1]; omega
  have rv : Vals (ts.map tx) acc.toList := vals_of_at (by rw [List.length_map, hal]) fun j x w h1 h2 => by
    obtain ⟨kk, y, e1, e2⟩ := hacc.2 j w (by rw [← Array.getElem?_toList]; exact h2)
    have e3 : (vs.map (·.1))[j]? = some kk := by rw [List.getElem?_map, e1]; rfl
    rw [hkeys, List.getElem?_map] at e3
    rw [List.getElem?_map] at h1
    cases e4 : ts[j]? with
    | none => rw [e4] at e3; cases e3
    | some l =>
      rw [e4] at e3 h1
      cases h1
      have e5 : Sum.inr (tS l) = kk := Option.some.inj e3
      subst e5
      exact keyIs_rel (k := Sum.inr (tS l)) e2
  have I1 : L2.Inv X pins σ H { s with heap := h', toks := tk } := I.kept hk
  refine wpAny_bind (wpAny_newList ?_ (by omega))
  have hoL : (h'.push (seqObj "list" acc.toList.toArray 0)).get? h'.objs.size = some (seqObj "list" acc.toList.toArray 0) := Heap.get?_push_size _ rfl
  have I2 : L2.Inv X pins σ H { s with heap := h'.push (seqObj "list" acc.toList.toArray 0), toks := tk } := I1.kept (t' := tk) fun b o e => Heap.get?_push_of_some _ e
  have hn : H h'.objs.size = none := I1.hok.fresh (Nat.le_refl _)
  show wpAny _ _ _ _ _ { s with heap := h'.push (seqObj "list" acc.toList.toArray 0), toks := tk }
  refine wpAny_bind (wpAny_holding (wpAny_call_entry_kw slot_list_sort ⟨_, hoL, rfl⟩ entry_list_sort ?body (PyProof.Rows.ksk_l1 _ _)))
  case body =>
    show wpAny (model X.prog X.w) X.A.in1.in1 (Builtin.«list.sort» ⟨[.ref h'.objs.size], [(Str.ofString "key", f)]⟩) _ _ _
    rw [hf]
    refine key_tree hr hK I2 rv (by omega) hl hn hoL (above_ok (it := h'.objs.size) I1 (Nat.le_refl _)) fun s' H' I' sm ha => ⟨_, rfl, wpAny_pure ⟨_, rfl, ?_⟩⟩
    refine ⟨.ref _, _, I', rfl, q _ _ (fun b o e => ?_) hn upd_same⟩
    rw [upd_ne (ne_of_none e hn)]
    exact sm b o e
end
end L3
/-! sorted(.., key=def) and sorted(.., key=lambda). -/
namespace L3
open PySem PySem.Spec PyProof.Rows L2
/-- the promise of a def that gives a key -/
def spKey (kf : KF) : Sp := fun vs H Q _ => ∃ l, vs = [tx l] ∧ l.length ≤ sizeLine ∧ ∀ H' p, Same H H' → H' p = some (.tup [.int (kf l).1, tx (kf l).2]) → Q (.ref p) H'
section
variable {X : Cx}
theorem kcall_fn {k : Nat} {f : Addr} {fd : FuncData} {x : Str} {kf : KF} {pins : List (Addr × Obj)} {H0 : Hp} (F : FnOk X.prog X.w X.K X.mg X.base CX0 k f fd [x] (spKey kf)) (hr : Room (k + 2) X.A) (hb : L2.Binds X.K fd [x] []) : KCall X pins H0 (.ref f) kf := by
  intro s σ H l t I sm hl
  have hb' : BindsTo s fd ⟨[.str (tS l) t], []⟩ ([x].zip [.str (tS l) t]) := hb s [.str (tS l) t] I.kIn rfl
  refine wpAny_call (codeAny_mono (F.run X.A.in1.in1 X.stack s H ⟨[.str (tS l) t], []⟩ [.str (tS l) t] [tx l] (fun v H' => Same H H' ∧ ∃ p, v = .ref p ∧ H' p = some (.tup [.int (kf l).1, tx (kf l).2])) E0 hr.in1.in1 I.env0.in1.in1 hb' (.cons ⟨t, rfl⟩ .nil) ⟨l, rfl, hl, fun H' p s1 hp => ⟨s1, p, rfl, hp⟩⟩) fun r s' hq => ?_)
  cases r with
  | error e => exact (show False from hq).elim
  | ok fl =>
    cases fl with
    | ret u =>
      obtain ⟨v, H', os, bare, un, hok, rv, sm', p, rfl, hp⟩ := hq
      exact ⟨p, H', os, bare, un, hok, sm', rv, hp⟩
    | next => exact False.elim hq
    | brk => exact False.elim hq
    | cont => exact False.elim hq
def rSortKey (K : PySem.W.Frag) (f : Addr) (kf : KF) : List V → List V → Hp → VK → Prop := fun vs zs H Q => ∃ (a : Addr) (ts : List (List Nat)), vs = [.ref a] ∧ zs = [.ref f] ∧ SqL K H a (ts.map tx) ∧ (∀ l ∈ ts, l.length ≤ sizeLine) ∧
  ∀ H' p, Same H H' → H p = none → H' p = some (.lst ((sortT kf ts).map tx)) → Q (.ref p) H'
/-- sorted(e, key=f), f a def -/
theorem cr_sortKey {k : Nat} {f : Addr} {fd : FuncData} {x : Str} {kf : KF} (F : FnOk X.prog X.w X.K X.mg X.base CX0 k f fd [x] (spKey kf)) (hr : Room (k + 2) X.A) (hb : L2.Binds X.K fd [x] []) : CallRK X (.builtin "sorted") [Str.ofString "key"] (rSortKey X.K f kf) := by
  intro pins s σ H vs zs us ws Q I r rz h
  obtain ⟨a, ts, rfl, rfl, hS, hl, q⟩ := h
  obtain rfl := Vals.ref1 r
  obtain rfl := Vals.ref1 rz
  exact sorted_key hr (fun x => PyProof.Rows.ksk_t1 f x) (kcall_fn F hr hb) I hS hl q
end
/-! ### a lambda with parameters and nothing captured -/
section
variable {P : Program} {w : World} {K : PySem.W.Frag} {mg : Str → Option Value} {base : Heap}
theorem lam_run {k : Nat} {f c' : Addr} {q : Str} {params : Arguments} {body : Expr} {scope : Scope} {pm ctv : Value} {N ps : List Str} {A : Around} {outer : List Env} {s : Shared} {H : Hp} {us : List Value} {vs : List V} {Q : VK}
    (ho : s.heap.get? f = some (PySem.W.kla_obj "<lambda>" q params body scope [] pm c' ctv)) (hcd : s.heap.CodeRec (.ref c') q) (S : FnScope N ps scope) (hr : Room (k + 1) A) (e0 : Env0 P w K mg base A outer s H)
    (hb : bindArgs (PySem.W.kla_fn "<lambda>" q params body scope [] pm (.ref c') ctv) ⟨us, []⟩ = pure (ps.zip us)) (r : Vals vs us) (hl : vs.length = ps.length)
    (hbody : Room k (A.deeper (envOfC q scope s.heap.objs.size f (.ref c'))) → ∃ t, PE (cxOf CX0 P w K mg base N q scope f (.ref c') A outer s H E0).nox body t ∧ t (L2.start N vs) H Q) :
    codeAny (model P w) A (.call (.ref f) ⟨us, []⟩) (CR CX0 outer P w H s Q E0) s := by
  have lim : s.heap.NoLimit := e0.mod.nolimit.keeps fun b o e => (e0.bs b o e).1
  have hkind : ∀ y ∈ ps.zip us, scope.names.lookup y.1 = some .local ∨ (scope.names.lookup y.1 = some .cell ∧ ((cellsFrom (s.heap.objs.size + 1) scope.names []).lookup y.1).isSome = true) := fun ⟨n, v⟩ hy => by
    rcases S.par n (List.of_mem_zip hy).1 with z | z
    · exact .inl z
    · exact .inr ⟨z, PySem.W.cellsFrom_some _ _ _ (.inl z)⟩
  refine PySem.W.kla_callFunE hr.depth ho rfl S.co S.gen rfl hcd ?_
  rw [hb]
  refine wpAny_pure ?_
  refine wpAny_newFunctionEnv_cells S.kind hkind fun env he s1 x => ?_
  subst he
  refine ⟨lim.keeps x.toInCall.keep, ?_⟩
  obtain ⟨t, ht, hq⟩ := hbody (hr.deeper _)
  have I : L2.Inv (cxOf CX0 P w K mg base N q scope f (.ref c') A outer s H E0) [] (L2.start N vs) H s1 := inv_start S hr.hd e0 hl r x
  show codeAny _ A (.expr body (envOfC q scope s.heap.objs.size f (.ref c'))) _ s1
  refine PySem.W.kla_codeExpr (wpAny_mono (ht.nox.run [] s1 (L2.start N vs) H Q I hq) (fun v s' hs => ?_) fun e s' hs => hs)
  obtain ⟨v', H', J, rv, qq⟩ := hs
  exact ⟨v', H', J.os, J.bare, J.base, J.hok, rv, qq⟩
end
section
variable {X : Cx} {pins : List (Addr × Obj)} {σ : L2.St} {H : Hp} {s : Shared}
theorem Inv_pin {f : Addr} {o : Obj} (I : L2.Inv X pins σ H s) (hf : s.heap.get? f = some o) (hn : H f = none) (hfr : f ∉ frs X.stack) (hL : f ≠ X.env.locals) (hc : ∀ v, o.data ≠ .cell v) : L2.Inv X ((f, o) :: pins) σ H s := by
  refine ⟨I.ok, I.os, I.bare, I.base, I.loc, I.cell, I.free, I.freeC, fun p hp => ?_, I.hok, I.len⟩
  rcases List.mem_append.mp hp with hp | hp
  · exact I.pin p (List.mem_append_left _ hp)
  · rcases List.mem_cons.mp hp with rfl | hp
    · refine ⟨hf, hn, hL, fun z => hfr ?_, hc⟩
      rcases I.ok.stk with e | ⟨e, _⟩
      · rw [e]; exact z
      · rw [e]
        unfold frs
        rw [List.filterMap_cons]
        split
        · exact z
        · exact List.mem_cons_of_mem _ z
    · exact I.pin p (List.mem_append_right _ hp)
theorem Inv_unpin {p : Addr × Obj} (I : L2.Inv X (p :: pins) σ H s) : L2.Inv X pins σ H s := by
  refine ⟨I.ok, I.os, I.bare, I.base, I.loc, I.cell, I.free, I.freeC, fun q hq => ?_, I.hok, I.len⟩
  rcases List.mem_append.mp hq with hq | hq
  · exact I.pin q (List.mem_append_left _ hq)
  · exact I.pin q (List.mem_append_right _ (List.mem_cons_of_mem _ hq))
end
end L3
/-! sorted(.., key=lambda x: ..). -/
namespace L3
open PySem PySem.Spec PyProof.Rows L2
/-- what is new is none of the old -/
def Fresh (H : Hp) (p : Addr) : Prop := ∀ b o, H b = some o → (∀ ps, o ≠ .tbl ps) → b ≠ p
/-- what sorted(x, key=lambda) asks, x a dict of texts or a list of texts -/
def rSortLam (K : PySem.W.Frag) (T : List (Addr × Str)) (kf : KF) : V → Hp → VK → Prop := fun x H Q => ∃ (d : Addr) (ts : List (List Nat)), x = .ref d ∧
  ((∃ kvs : List (Key × V), H d = some (.dK kvs) ∧ kvs.map (·.1) = ts.map fun l => Sum.inr (tS l)) ∨ H d = some (.lst (ts.map tx))) ∧ (∀ l ∈ ts, l.length ≤ sizeLine) ∧ LamX.Tabs T H ∧
  ∀ H' p, LamX.ExtN H H' → LamX.Tabs T H' → Fresh H p → H' p = some (.lst ((sortT kf ts).map tx)) → Q (.ref p) H'
section
variable {X : Cx}
theorem kcall_lam {k : Nat} {f c' : Addr} {params : Arguments} {body : Expr} {scope : Scope} {q : Str} {pm ctv : Value} {N : List Str} {y : Str} {kf : KF} {tb : TE} {pins : List (Addr × Obj)} {H0 : Hp} (hr : Room (k + 3) X.A) (S : FnScope N [y] scope)
    (hf : (f, PySem.W.kla_obj "<lambda>" q params body scope [] pm c' ctv) ∈ pins) (hc : H0 c' = some (LamX.CodeO c' q))
    (hbind : ∀ u : Value, bindArgs (PySem.W.kla_fn "<lambda>" q params body scope [] pm (.ref c') ctv) ⟨[u], []⟩ = pure [(y, u)])
    (hbody : ∀ (A : Around) (outer : List Env) (s : Shared) (H : Hp) (f c' : Addr), Room k (A.deeper (envOfC q scope s.heap.objs.size f (.ref c'))) → PE (cxOf CX0 X.prog X.w X.K X.mg X.base N q scope f (.ref c') A outer s H E0).nox body tb)
    (hread : ∀ (l : List Nat) (H : Hp), l.length ≤ sizeLine → tb (L2.start N [tx l]) H fun v H' => Same H H' ∧ ∃ p, v = .ref p ∧ H' p = some (.tup [.int (kf l).1, tx (kf l).2])) : KCall X pins H0 (.ref f) kf := by
  intro s σ H l t I sm hl
  have hp := I.pin _ (List.mem_append_right X.pn hf)
  obtain ⟨⟨oc, vs, t', hoc, hdc, hvc⟩, _, _⟩ := I.hok c' _ (sm _ _ hc)
  have rc : codeAny (model X.prog X.w) X.A.in1.in1 (.call (.ref f) ⟨[.str (tS l) t], []⟩) (CR CX0 X.stack X.prog X.w H s (fun v H' => Same H H' ∧ ∃ p, v = .ref p ∧ H' p = some (.tup [.int (kf l).1, tx (kf l).2])) E0) s :=
    lam_run (vs := [tx l]) hp.1 ⟨c', oc, vs, t', rfl, hoc, hdc, hvc⟩ S hr.in1.in1 I.env0.in1.in1 (hbind _) (.cons ⟨t, rfl⟩ .nil) rfl fun hr' => ⟨tb, hbody _ _ _ _ _ _ hr', hread l H hl⟩
  refine wpAny_call (codeAny_mono rc fun r s' hq => ?_)
  cases r with
  | error e => exact (show False from hq).elim
  | ok fl =>
    cases fl with
    | ret u =>
      obtain ⟨v, H', os, bare, un, hok, rv, sm', p, rfl, hp⟩ := hq
      exact ⟨p, H', os, bare, un, hok, sm', rv, hp⟩
    | next => exact False.elim hq
    | brk => exact False.elim hq
    | cont => exact False.elim hq
/-- sorted(e, key=lambda y: body) -/
theorem pe_sortLam {T : List (Addr × Str)} {c P : Addr} {k : Nat} {e : Expr} {te tb : TE} {params : Arguments} {body : Expr} {scope : Scope} {N : List Str} {y : Str} {kf : KF} {p lpos kpos pos : Pos} (hcalm : X.calm = true) (hg : Gl X "sorted") (hm : X.mg "sorted" = none) (hv : bootBuiltins "sorted" = some (.builtin "sorted"))
    (he : PE X e te) (TB : LamX.TabB X.base X.mg c P) (hcode : X.env.code = .ref c) (hmT : (P, X.env.qual ++ "<lambda>") ∈ T) (hu : ∀ p ∈ T, p.1 = P → p.2 = X.env.qual ++ "<lambda>") (hr : Room (k + 3) X.A) (S : FnScope N [y] scope) (hdef : defaultsOf params X.env = ([], []))
    (hclo : cloFrom X.env.cells scope.names [] = []) (hfree : ∀ y ∈ scope.names, y.2 ≠ .free)
    (hbind : ∀ (q : Str) (pm cv ctv u : Value), bindArgs (PySem.W.kla_fn "<lambda>" q params body scope [] pm cv ctv) ⟨[u], []⟩ = pure [(y, u)])
    (hbody : ∀ (A : Around) (outer : List Env) (s : Shared) (H : Hp) (f c' : Addr), Room k (A.deeper (envOfC (X.env.qual ++ "<lambda>") scope s.heap.objs.size f (.ref c'))) → PE (cxOf CX0 X.prog X.w X.K X.mg X.base N (X.env.qual ++ "<lambda>") scope f (.ref c') A outer s H E0).nox body tb)
    (hread : ∀ (l : List Nat) (H : Hp), l.length ≤ sizeLine → tb (L2.start N [tx l]) H fun v H' => Same H H' ∧ ∃ p, v = .ref p ∧ H' p = some (.tup [.int (kf l).1, tx (kf l).2]))
    (hst : backTo pos (starEach [e] X.env) = (false, eval e X.env) :: backTo pos (starEach [] X.env) := by rfl) :
    PE X (.Call (.Name "sorted" p) [e] [⟨some "key", .Lambda params body scope lpos, kpos⟩] pos) (fun σ H Q => te σ H fun x H1 => rSortLam X.K T kf x H1 Q) := by
  refine ⟨fun pins s σ H Q I h => ?_⟩
  refine wpAny_Call_Name_kw (ld_blt I hg hm hv ?_)
  refine PyProof.Rows.callWith_kw ?_ hst (by rw [hst]; rfl) rfl rfl
  rw [hst]
  refine Calls.spliced_cons (thn (he.run pins s σ H _ I h) fun u s1 ⟨x, H1, I1, r1, q1⟩ => ?_)
  refine Calls.spliced_nil ?_
  show wpAny _ _ (evalAll [do let v ← eval (.Lambda params body scope lpos) X.env; standAt pos; pure v]) _ _ s1
  obtain ⟨d, ts, rfl, hd, hl, hT, q⟩ := q1
  obtain rfl : u = Value.ref d := r1
  refine wpAny_evalAll_cons (wpAny_bind (LamX.lam_make2 I1 TB hcode hmT hu hT hdef (fun y hy e => absurd e (hfree y hy)) fun f c' pm ctv H2 s2 I2 eN T2 hf hfn hfr hco => ?_))
  refine wpAny_bind (wpAny_standAt (wpAny_pure (wpAny_evalAll_nil ?_)))
  rw [hclo] at hf
  show wpAny (model X.prog X.w) X.A (call (.builtin "sorted") [.ref d] [(Str.ofString "key", .ref f)]) _ _ _
  have hL : f ≠ X.env.locals := fun e => by
    obtain ⟨m, ⟨o, es, ep, ho, hd', _⟩, _⟩ := I2.loc
    rw [← e, hf] at ho
    cases ho
    cases hd'
  have I3 := Inv_pin (s := _) (I2.tok s2.toks) hf hfn hfr hL (fun v z => nomatch z)
  have hK := kcall_lam (X := X) (pins := (f, PySem.W.kla_obj "<lambda>" (X.env.qual ++ "<lambda>") params body scope [] pm c' ctv) :: pins) (H0 := H2) hr S List.mem_cons_self hco (fun u => hbind _ _ _ _ u) hbody hread
  have fin : ∀ H' p, Same H2 H' → H2 p = none → H' p = some (.lst ((sortT kf ts).map tx)) → Q (.ref p) H' := fun H' p sm hp hl' =>
    q H' p (eN.trans (LamX.ExtN.of sm)) (T2.ext sm) (fun b o hb ho e => by rw [e] at hb; rw [eN _ _ hb ho] at hp; cases hp) hl'
  have back : ∀ v s', EP X ((f, PySem.W.kla_obj "<lambda>" (X.env.qual ++ "<lambda>") params body scope [] pm c' ctv) :: pins) σ Q v s' → EP X pins σ Q v s' := fun v s' ⟨v', H', J, rv, qq⟩ => ⟨v', H', Inv_unpin J, rv, qq⟩
  rcases hd with ⟨kvs, hd, hk⟩ | hd
  · have hd2 := eN _ _ hd (fun ps z => nomatch z)
    exact wpAny_mono (sorted_keyD hcalm hr (fun x => PyProof.Rows.ksk_t1 f x) hK I3 hd2 hk hl fin) back fun _ _ z => z
  · have hd2 := eN _ _ hd (fun ps z => nomatch z)
    exact wpAny_mono (sorted_key hr (fun x => PyProof.Rows.ksk_t1 f x) hK I3 (.inl (.inl hd2)) hl fin) back fun _ _ z => z
end
end L3
/-! The end of a law row: the law's def is run where no repr is under way; tables of code objects; the script's bits. -/
namespace L3
open PySem PySem.Spec PyProof.Rows L2
/-- the tracked heap at the law's call: the script (locked), where it is not written, and the tables -/
def H0 (K : PySem.W.Frag) (a : Addr) (vs : List Value) (ns : List Int) (cs : List (Addr × Addr)) : Hp := fun b =>
  if b = a then (if (K.lookup a).isSome then none else some (.frz { cls := .type "list", data := .seq vs.toArray } (.lst (ns.map V.int)))) else if b ∈ cs.map (·.2) then some (.tbl #[]) else none
theorem law_callG {P : Program} {w : World} {K : PySem.W.Frag} {mg mb : Str → Option Value} {k : Nat} {fa a : Addr} {cs : List (Addr × Addr)} {fd : FuncData} {x : Str} {sp : Sp} {s₁ : Shared} {vs : List Value} {ns : List Int}
    (KX : K.In s₁.heap) (hns : s₁.heap.Ns mainGlobals mg) (hb : s₁.heap.Ns builtinsNs mb) (hbb : ∀ x : Str, x ≠ "__name__" → mb x = bootBuiltins x) (hlim : s₁.heap.NoLimit) (hg : s₁.gens = #[])
    (hT : ∀ p ∈ cs, s₁.heap.get? p.2 = some { cls := .none, data := .fields #[] }) (nT : ∀ p ∈ cs, K.lookup p.2 = none) (C : ∀ p ∈ cs, PySem.W.CodeHd s₁.heap p.1 p.2)
    (hbm : ∃ (bm : Addr) (ob : Obj), mg "__builtins__" = some (.ref bm) ∧ bm ≠ builtinsNs ∧ s₁.heap.get? bm = some ob ∧ ob.cls = .type "module" ∧ ob.dict = some builtinsNs ∧ ob.data = .plain)
    (ha : s₁.heap.get? a = some { cls := .type "list", data := .seq vs.toArray }) (hi : IntsAre vs ns) (hl : ns.length ≤ sizeLine) (hr : Room k callerA)
    (F : ∀ base : Heap, K.In base → base.Ns mainGlobals mg → (∀ p ∈ cs, LamX.TabB base mg p.1 p.2) → FnOkG P w K mg base CX0 k fa fd [x] sp) (hbind : L2.Binds K fd [x] [])
    (hsp : ∀ H : Hp, (∀ p ∈ cs, H p.2 = some (.tbl #[])) → SqL K H a (ns.map V.int) → sp [.ref a] H (fun v _ => v = .bl true) fun _ _ _ => False) :
    codeAny (model P w) callerA (.call (.ref fa) ⟨[.ref a], []⟩) (fun r s' => r = .ok (.ret (.bool true)) ∧ OldK s₁.heap s'.heap ∧ s'.os = s₁.os ∧ AllBare s'.gens) s₁ := by
  have rv := vals_ints hi
  have lenV := hi.length
  have isT : ∀ b : Addr, b ∈ cs.map (·.2) → s₁.heap.get? b = some { cls := .none, data := .fields #[] } := fun b hb => by
    obtain ⟨p, hp, e⟩ := List.mem_map.mp hb
    rw [← e]; exact hT p hp
  have aT : a ∉ cs.map (·.2) := fun z => by
    have q := isT a z
    rw [ha] at q
    cases congrArg Obj.data (Option.some.inj q)
  have memT : ∀ p ∈ cs, p.2 ∈ cs.map (·.2) := fun p hp => List.mem_map.mpr ⟨p, hp, rfl⟩
  -- the three cases of H0
  have hcase : ∀ b, (b = a ∧ H0 K a vs ns cs b = none ∧ (K.lookup a).isSome = true) ∨ (b = a ∧ K.lookup a = none ∧ H0 K a vs ns cs b = some (.frz { cls := .type "list", data := .seq vs.toArray } (.lst (ns.map V.int)))) ∨
      (b ≠ a ∧ b ∈ cs.map (·.2) ∧ H0 K a vs ns cs b = some (.tbl #[])) ∨ (b ≠ a ∧ b ∉ cs.map (·.2) ∧ H0 K a vs ns cs b = none) := fun b => by
    unfold H0
    by_cases e : b = a
    · rw [if_pos e]
      cases hk : K.lookup a with
      | some o => exact .inl ⟨e, rfl, rfl⟩
      | none => exact .inr (.inl ⟨e, rfl, rfl⟩)
    · rw [if_neg e]
      by_cases e2 : b ∈ cs.map (·.2)
      · rw [if_pos e2]; exact .inr (.inr (.inl ⟨e, e2, rfl⟩))
      · rw [if_neg e2]; exact .inr (.inr (.inr ⟨e, e2, rfl⟩))
  have tabAt : ∀ p ∈ cs, H0 K a vs ns cs p.2 = some (.tbl #[]) := fun p hp => by
    rcases hcase p.2 with ⟨e, _⟩ | ⟨e, _⟩ | ⟨_, _, z⟩ | ⟨_, n, _⟩
    · exact absurd (e ▸ memT p hp) aT
    · exact absurd (e ▸ memT p hp) aT
    · exact z
    · exact absurd (memT p hp) n
  have free : ∀ {b : Addr} {o : Obj}, s₁.heap.get? b = some o → (∀ vs n, o.data ≠ .seq vs n) → o.data ≠ .fields #[] → H0 K a vs ns cs b = none := fun {b o} e h1 h2 => by
    rcases hcase b with ⟨_, z, _⟩ | ⟨e', _⟩ | ⟨_, e', _⟩ | ⟨_, _, z⟩
    · exact z
    · rw [e', ha] at e
      cases e
      exact absurd rfl (h1 _ _)
    · rw [isT b e'] at e
      cases e
      exact absurd rfl h2
    · exact z
  have nsK : ∀ {b : Addr} {m : Str → Option Value}, s₁.heap.Ns b m → (hidT s₁.heap (H0 K a vs ns cs)).Ns b m := fun {b m} ⟨o, es, ep, e, d, r⟩ =>
    ⟨o, es, ep, hidT_get e (free e (fun vs n z => by rw [d] at z; cases z) fun z => by rw [d] at z; cases z), d, r⟩
  have hKb : K.In (hidT s₁.heap (H0 K a vs ns cs)) := fun b o e => hidT_get (KX b o e) (by
    rcases hcase b with ⟨_, z, _⟩ | ⟨e', n, _⟩ | ⟨_, e', _⟩ | ⟨_, _, z⟩
    · exact z
    · rw [e', n] at e; cases e
    · obtain ⟨p, hp, ep⟩ := List.mem_map.mp e'
      rw [← ep, nT p hp] at e
      cases e
    · exact z)
  have hM : L2.Mod K mg (hidT s₁.heap (H0 K a vs ns cs)) := ⟨hKb, nsK hns, ⟨mb, nsK hb, hbb⟩, let ⟨mc, h1, h2⟩ := hlim; ⟨mc, nsK h1, h2⟩⟩
  have TB : ∀ p ∈ cs, LamX.TabB (hidT s₁.heap (H0 K a vs ns cs)) mg p.1 p.2 := fun p hp => by
    have hTp := hT p hp
    refine ⟨?_, ?_, fun z => ?_⟩
    · obtain ⟨o, us, file, tf, flags, tg, inF, text, tt, e1, r1, r2, r3, r⟩ := C p hp
      refine ⟨o, us, file, tf, flags, tg, inF, text, tt, hidT_get e1 (free e1 (fun vs n z => by rw [r2] at z; cases z) fun z => ?_), r1, r2, r3, r⟩
      rw [r2] at z
      cases z
      simp at r3
    · obtain ⟨bm, ob, b1, b2, b3, b4, b5, b6⟩ := hbm
      refine ⟨bm, ob, b1, b2, fun q => ?_, fun q => ?_, hidT_get b3 (free b3 (fun vs n z => by rw [b6] at z; cases z) fun z => by rw [b6] at z; cases z), b4, b5, b6⟩
      · obtain ⟨o, es, ep, e, hd, _⟩ := hns
        rw [q, e] at b3
        cases b3
        rw [hd] at b6
        cases b6
      · rw [q, hTp] at b3
        cases b3
        cases b6
    · obtain ⟨o, es, ep, e, hd, _⟩ := hns
      rw [z, hTp] at e
      cases e
      cases hd
  have hok : HOk P w (H0 K a vs ns cs) s₁.heap := fun b u z => by
    rcases hcase b with ⟨_, n, _⟩ | ⟨e', _, q⟩ | ⟨_, e', q⟩ | ⟨_, _, n⟩
    · rw [n] at z; cases z
    · rw [q] at z
      cases z
      rw [e']
      exact ⟨ha, by rw [List.length_map]; exact hl, vs, _, rv, ha⟩
    · rw [q] at z
      cases z
      exact isT b e'
    · rw [n] at z; cases z
  have hS : SqL K (H0 K a vs ns cs) a (ns.map V.int) := by
    rcases hcase a with ⟨_, _, hk⟩ | ⟨_, _, q⟩ | ⟨n, _⟩ | ⟨n, _⟩
    · obtain ⟨o, hk⟩ := Option.isSome_iff_exists.mp hk
      have e := KX a o hk
      rw [ha] at e
      cases e
      exact .inr ⟨_, vs.toArray, _, hk, rfl, rfl, rfl, by rw [List.size_toArray, lenV]; exact hl, by simpa using rv⟩
    · exact .inl (.inr ⟨_, q⟩)
    · exact absurd rfl n
    · exact absurd rfl n
  have e0 : Env0 P w K mg (hidT s₁.heap (H0 K a vs ns cs)) callerA [] s₁ (H0 K a vs ns cs) := ⟨rfl, hM, fun b o e => of_hidT e, Nat.le_of_eq (hidT_size _ _), trivial, fun b hb => absurd (show b ∈ ([] : List Addr) from hb) (by simp), hok, .of_eq hg⟩
  refine codeAny_mono ((F _ hKb (nsK hns) TB).run callerA [] s₁ (H0 K a vs ns cs) ⟨[.ref a], []⟩ [.ref a] [.ref a] _ _ hr rfl e0 (hbind s₁ [.ref a] KX rfl) (.cons rfl .nil) (hsp _ tabAt hS)) fun r s' h => ?_
  cases r with
  | error e => exact (show False from h).elim
  | ok fl =>
    cases fl with
    | next => exact False.elim h
    | brk => exact False.elim h
    | cont => exact False.elim h
    | ret u =>
      obtain ⟨v, H', os, bare, un, hok', r', q⟩ := h
      have q' : v = .bl true := q
      subst q'
      obtain rfl : u = Value.bool true := r'
      have key : ∀ b o, b ∉ cs.map (·.2) → s₁.heap.get? b = some o → s'.heap.get? b = some o := fun b o nb e => by
        rcases hcase b with ⟨_, n, _⟩ | ⟨_, _, z⟩ | ⟨_, e', _⟩ | ⟨_, _, n⟩
        · exact un.keep b o e n (fun z => absurd (show b ∈ ([] : List Addr) from z) (by simp)) (by simp)
        · have z2 := un.frzs b _ _ z
          obtain ⟨e1, _⟩ := hok b _ z
          obtain ⟨e2, _⟩ := hok' b _ z2
          rw [e] at e1
          cases e1
          exact e2
        · exact absurd e' nb
        · exact un.keep b o e n (fun z => absurd (show b ∈ ([] : List Addr) from z) (by simp)) (by simp)
      have grown : ∀ p ∈ cs, ∃ more : Array Value, s'.heap.get? p.2 = some { cls := .none, data := .fields more } := fun p hp => by
        obtain ⟨more, z⟩ := un.tbls p.2 #[] (tabAt p hp)
        exact ⟨_, hok' p.2 _ z⟩
      refine ⟨rfl, ⟨fun b o e => ?_, fun b o e => ?_⟩, os, bare⟩
      · by_cases hb : b ∈ cs.map (·.2)
        · obtain ⟨p, hp, ep⟩ := List.mem_map.mp hb
          obtain ⟨more, hm⟩ := grown p hp
          rw [← ep] at e ⊢
          rw [hT p hp] at e
          cases e
          exact .inr (.inl ⟨((C p hp).tab (hT p hp)).isCodeTable, rfl, #[], more, rfl, by rw [Array.empty_append]; exact hm⟩)
        · exact .inl (key b o hb e)
      · by_cases hb : b ∈ cs.map (·.2)
        · obtain ⟨p, hp, ep⟩ := List.mem_map.mp hb
          obtain ⟨more, hm⟩ := grown p hp
          rw [← ep]
          exact ⟨_, hm⟩
        · exact ⟨o, key b o hb e⟩
end L3
/-! Comprehensions by what holds of the list so far; heaps that grow. -/
namespace L3
open PySem PySem.Spec PyProof.Rows L2
theorem same_upd {H : Hp} {p : Addr} {o : HO} (h : H p = none) : Same H (upd H p o) := fun b x e => by
  rw [upd_ne (ne_of_none e h)]
  exact e
theorem same_up {H H' : Hp} {p : Addr} {o : HO} (s : Same H H') (h : H p = none) : Same H (upd H' p o) := fun b x e => by
  rw [upd_ne (ne_of_none e h)]
  exact s b x e
/-- a comprehension: R of the heap, A of the list so far -/
theorem lc_gen {J : It} {n : Nat} {G : Hp → Prop} {Y : Nat → Hp → V → Hp → Prop} (w : Walk J n G Y) {g : TG} {tt : TT} {te : TE} {vs : List Nat} {σ : L2.St} {H1 : Hp} {D : Addr} {Qd : Hp → Prop} (R : Hp → Prop) (A : Nat → List V → Prop) (hz : n ≤ sizeLine) (hA : ∀ i acc, A i acc → acc.length ≤ i)
    (h0 : A 0 []) (r0 : R (upd H1 D (.lst []))) (r1 : ∀ H x, R H → R (upd H D x)) (hG : ∀ H, R H → G H)
    (hs : ∀ i x H H' acc (C : VK) (N : Hp → Prop), i < n → R H → H D = some (.lst acc) → A i acc → Y i H x H' → (∀ v H4, R H4 → H4 D = some (.lst acc) → A (i + 1) (acc ++ [v]) → C v H4) → (∀ H3, R H3 → H3 D = some (.lst acc) → A (i + 1) acc → N H3) →
      g x (wipe σ vs) H' fun σ2 H2 => wipe σ2 vs = wipe σ vs ∧ tt σ2 H2 fun b H3 => if b = true then te σ2 H3 C else N H3)
    (hd : ∀ H xs, R H → H D = some (.lst xs) → A n xs → Qd H) :
    ∃ W : Nat → Nat → Hp → Prop, (∃ m, W 0 m (upd H1 D (.lst []))) ∧ ∀ i m H, W i m H →
      (J.stop i H ∧ Qd H) ∨ (J.go i H ∧ ∃ Nx : Hp → Prop, (∀ H', Nx H' → ∃ m', m' < m ∧ W (i + 1) m' H') ∧ ∀ x H', J.yld i H x H' → g x (wipe σ vs) H' fun σ2 H2 => wipe σ2 vs = wipe σ vs ∧ tt σ2 H2 fun b H3 =>
        if b = true then te σ2 H3 fun y H4 => ∃ acc, H4 D = some (.lst acc) ∧ acc.length < sizeLine ∧ Nx (upd H4 D (.lst (acc ++ [y]))) else Nx H3) := by
  refine lc_it w (fun i H => R H ∧ ∃ acc, H D = some (.lst acc) ∧ A i acc) ⟨r0, [], upd_same, h0⟩ (fun i H _ p => hG H p.1) (fun i x H H' hi p y => ?_) fun H p => ?_
  · obtain ⟨rH, acc, hD, ha⟩ := p
    refine hs i x H H' acc _ _ hi rH hD ha y (fun v H4 r4 d4 a4 => ⟨acc, d4, ?_, r1 _ _ r4, _, upd_same, a4⟩) (fun H3 r3 d3 a3 => ⟨r3, acc, d3, a3⟩)
    have := hA i acc ha
    omega
  · obtain ⟨rH, acc, hD, ha⟩ := p
    exact hd H acc rH hD ha
/-- no test -/
theorem yes_te {te : TE} {σ : L2.St} {H : Hp} {C : VK} {N : Hp → Prop} (h : te σ H C) : tYes σ H fun b H3 => if b = true then te σ H3 C else N H3 := by
  show (if true = true then te σ H C else N H)
  rw [if_pos rfl]
  exact h
/-- what R asks where nothing but the new list is made -/
theorem same_r0 {H1 : Hp} {D : Addr} (h : H1 D = none) : Same H1 (upd H1 D (.lst [])) := same_upd h
section
variable {X : Cx}
theorem call_lenT : CallR X (.builtin "len") (fun xs H Q => ∃ l, xs = [tx l] ∧ l.length ≤ sizeLine ∧ Q (.int (l.length : Int)) H) := by
  intro pins s σ H xs us Q I r h
  obtain ⟨l, rfl, hz, q⟩ := h
  exact call_len_str pins s σ H _ us Q I r ⟨_, rfl, by rw [tS_len]; exact hz, by rw [tS_len]; exact q⟩
theorem ix_tx : IxR X (fun x y H Q => ∃ (l : List Nat) (i c : Nat), x = tx l ∧ y = .int (i : Int) ∧ l.length ≤ sizeLine ∧ l[i]? = some c ∧ Q (tx [c]) H) := by
  intro value slice pins s σ H x y v u Q I rx ry h hs
  obtain ⟨l, i, c, rfl, rfl, hz, he, q⟩ := h
  exact ix_str value slice pins s σ H _ _ v u Q I rx ry ⟨_, _, c, rfl, rfl, by rw [tS_len]; exact hz, atI_nat he, q⟩ hs
theorem mt_findT : MtR X "str.find" (fun x xs H Q => ∃ (l : List Nat) (c k : Nat), x = tx l ∧ xs = [tx [c], .int (k : Int)] ∧ ((∀ v : Nat, k ≤ v → l[v]? ≠ some c) → Q (.int (-1)) H) ∧
    ∀ j : Nat, k ≤ j → l[j]? = some c → (∀ v : Nat, k ≤ v → v < j → l[v]? ≠ some c) → Q (.int (j : Int)) H) := by
  intro pins s σ H x xs v us Q I rx r h
  obtain ⟨l, c, k, rfl, rfl, q1, q2⟩ := h
  refine mt_find3 pins s σ H _ _ v us Q I rx r ⟨_, _, _, rfl, rfl, ?_⟩
  have hf : fromIndex (tS l).length (k : Int) = k := by
    unfold fromIndex
    rw [if_neg (by omega)]
    omega
  have hg : ∀ v, v < l.length → ((tS l).cps.getD v 0 = c ↔ l[v]? = some c) := fun v hv => by
    have e : (tS l).cps.getD v 0 = l[v] := by simp [tS, Array.getD, hv]
    rw [e, List.getElem?_eq_getElem hv]
    constructor
    · rintro rfl; rfl
    · exact fun z => Option.some.inj z
  rcases StrLaws.find3_spec (tS l) c (k : Int) with ⟨e, hn⟩ | ⟨j, e, h1, h2, h3, h4⟩
  · rw [show Txt.find3 (tS l) (tS [c]) (k : Int) = -1 from e]
    refine q1 fun v hv z => ?_
    have hlt := (List.getElem?_eq_some_iff.mp z).1
    rw [hf] at hn
    exact hn v hv (by rw [tS_len]; exact hlt) ((hg v hlt).mpr z)
  · rw [show Txt.find3 (tS l) (tS [c]) (k : Int) = (j : Int) from e]
    rw [hf] at h1 h4
    rw [tS_len] at h2
    exact q2 j h1 ((hg j h2).mp h3) fun v hv hj z => h4 v hv hj ((hg v (by omega)).mpr z)
end
theorem walk_tx {l : List Nat} : Walk (Its (tS l)) l.length (fun _ => True) (fun i H v H' => H' = H ∧ ∃ c, l[i]? = some c ∧ v = tx [c]) := by
  have e : (tS l).cps.size = l.length := tS_len l
  refine ⟨fun i _ hi _ => ?_, fun _ _ => ?_, fun i H v H' _ _ y => ?_⟩
  · show i < (tS l).cps.size
    rw [e]; exact hi
  · show (tS l).cps.size ≤ l.length
    rw [e]; exact Nat.le_refl _
  · obtain ⟨h1, c, h2, h3⟩ := y
    exact ⟨h1, c, by simpa [tS] using h2, h3⟩
/-- a def whose code object is told -/
theorem okC {P : Program} {w : World} {K : PySem.W.Frag} {mg : Str → Option Value} {base : Heap} {x qual : Str} {st : Stmt} {f : Addr} {fd : FuncData} {N ps : List Str} {k : Nat} {sp : Sp} (F : Fun K x qual st f fd) (S : FnScope N ps (defScope st)) (len : ∀ vs H Q E, sp vs H Q E → vs.length = ps.length)
    (hbody : ∀ (A : Around) (outer : List Env) (s : Shared) (H : Hp) (vs : List V) (Q : VK) (E : XK), Room k (A.deeper (envOfC qual (defScope st) s.heap.objs.size f fd.code)) → A.guards = some [] → sp vs H Q E →
      ∃ t, PSs (cxOf CX0 P w K mg base N qual (defScope st) f fd.code A outer s H E).nox (defBody st) t ∧ t { nx := fun _ H' => Q .non H', rt := Q } (L2.start N vs) H) : FnOkG P w K mg base CX0 (k + 1) f fd ps sp := by
  obtain ⟨oc, od, kV, doc, pm, an, cdv, ct, osl, rfl, lk, hcd⟩ := F.ex
  refine fn_ofG lk hcd S len fun A outer s H vs Q E hr hg hsp => ?_
  obtain ⟨t, h, q⟩ := hbody A outer s H vs Q E hr hg hsp
  exact ⟨t, h.nox, q⟩
end L3
/-! Data that is shown: texts, ints, bools in lists. Calls with keywords alone. -/
namespace L3
open PySem PySem.Spec PyProof.Rows L2
/-- what repr asks of data -/
structure Shw (d : PyData) : Prop where
  s : d.showable = true
  z : d.shown.length ≤ sizeLine
  p : d.depth ≤ 50
def dTx (ls : List (List Nat)) : List PyData := ls.map fun l => PyData.str (tS l)
theorem dp_txs {K : PySem.W.Frag} {H : Hp} : ∀ ls : List (List Nat), DpAll K H (ls.map tx) (dTx ls)
  | [] => .nil
  | l :: ls => .cons (.str _) (dp_txs ls)
theorem showAll_txs : ∀ ls : List (List Nat), PyData.showableAll (dTx ls) = true
  | [] => rfl
  | l :: ls => by
    show (PyData.showable (.str (tS l)) && PyData.showableAll (dTx ls)) = true
    rw [showAll_txs ls]
    rfl
theorem depthAll_txs : ∀ ls : List (List Nat), PyData.depthAll (dTx ls) = 0
  | [] => rfl
  | l :: ls => by
    show max (PyData.depth (.str (tS l))) (PyData.depthAll (dTx ls)) = 0
    rw [depthAll_txs ls]
    simp [PyData.depth]
theorem leavesAll_txs {B : Nat} : ∀ ls : List (List Nat), (∀ l ∈ ls, ∀ c ∈ l, c < 1114112) → PyData.leavesShortAll B (dTx ls) = true
  | [], _ => rfl
  | l :: ls, h => by
    show (PyData.leavesShort B (.str (tS l)) && PyData.leavesShortAll B (dTx ls)) = true
    rw [leavesAll_txs ls fun l' hl => h l' (List.mem_cons_of_mem _ hl), Bool.and_true]
    simp only [PyData.leavesShort, List.all_eq_true, decide_eq_true_eq]
    intro c hc
    have := h l List.mem_cons_self c (by simpa [tS] using hc)
    have e : 16 ^ 8 = 4294967296 := by decide
    omega
theorem weightAll_txs {B : Nat} : ∀ ls : List (List Nat), (∀ l ∈ ls, l.length ≤ B) → PyData.weightAll (dTx ls) ≤ (B + 1) * ls.length
  | [], _ => Nat.zero_le _
  | l :: ls, h => by
    have ih := weightAll_txs ls fun l' hl => h l' (List.mem_cons_of_mem _ hl)
    have h1 := h l List.mem_cons_self
    show PyData.weight (.str (tS l)) + 1 + PyData.weightAll (dTx ls) ≤ _
    have e : PyData.weight (.str (tS l)) = l.length := by simp [PyData.weight, tS]
    rw [e, List.length_cons, Nat.mul_succ]
    omega
theorem shw_txs {B n : Nat} {ls : List (List Nat)} (hc : ∀ l ∈ ls, ∀ c ∈ l, c < 1114112) (hl : ∀ l ∈ ls, l.length ≤ B) (hn : ls.length ≤ n) (hBn : (B + 1) * n ≤ 1048576) : Shw (.list (dTx ls)) := by
  refine ⟨?_, PyData.shown_fits (B := 8) (by decide) (by decide) ?_ ?_, ?_⟩
  · simp only [PyData.showable]; exact showAll_txs ls
  · simp only [PyData.leavesShort]; exact leavesAll_txs ls hc
  · simp only [PyData.weight]
    have h1 := weightAll_txs ls hl
    have h2 : (B + 1) * ls.length ≤ (B + 1) * n := Nat.mul_le_mul_left _ hn
    have e : (2 : Nat) ^ 20 = 1048576 := by decide
    omega
  · simp only [PyData.depth, depthAll_txs]; decide
theorem shw_bl (b : Bool) : Shw (.bool b) := ⟨by simp [PyData.showable], by cases b <;> decide +kernel, by simp [PyData.depth]⟩
theorem shw_bls (bs : List Bool) (h : bs.length ≤ 1000) : Shw (.list (bs.map PyData.bool)) := by
  have a1 : ∀ bs : List Bool, PyData.showableAll (bs.map PyData.bool) = true := fun bs => by
    induction bs with
    | nil => rfl
    | cons b bs ih => show (PyData.showable (.bool b) && _) = true; rw [ih]; rfl
  have a2 : ∀ bs : List Bool, PyData.leavesShortAll 8 (bs.map PyData.bool) = true := fun bs => by
    induction bs with
    | nil => rfl
    | cons b bs ih => show (PyData.leavesShort 8 (.bool b) && _) = true; rw [ih]; rfl
  have a3 : ∀ bs : List Bool, PyData.weightAll (bs.map PyData.bool) = bs.length := fun bs => by
    induction bs with
    | nil => rfl
    | cons b bs ih => show PyData.weight (.bool b) + 1 + PyData.weightAll (bs.map PyData.bool) = _; rw [ih]; simp [PyData.weight]; omega
  have a4 : ∀ bs : List Bool, PyData.depthAll (bs.map PyData.bool) = 0 := fun bs => by
    induction bs with
    | nil => rfl
    | cons b bs ih => show max (PyData.depth (.bool b)) _ = 0; rw [ih]; simp [PyData.depth]
  refine ⟨?_, PyData.shown_fits (B := 8) (by decide) (by decide) ?_ ?_, ?_⟩
  · simp only [PyData.showable]; exact a1 bs
  · simp only [PyData.leavesShort]; exact a2 bs
  · simp only [PyData.weight, a3]
    have e : (2 : Nat) ^ 20 = 1048576 := by decide
    omega
  · simp only [PyData.depth, a4]; decide
theorem shw_ints (ns : List Int) (h : ns.length ≤ 1000) (hn : ∀ n ∈ ns, n.natAbs < 1000000000) : Shw (.list (ns.map PyData.int)) := by
  have hlog : ∀ n : Int, n.natAbs < 1000000000 → n.natAbs.log2 < 30 := fun n h => by
    by_cases e : n.natAbs = 0
    · rw [e]; decide
    · exact (Nat.log2_lt e).mpr (Nat.lt_trans h (by decide))
  have hlen : ∀ n : Int, n.natAbs < 1000000000 → (PyData.shown (.int n)).length ≤ 10 := fun n h => by
    have e := int_text_length_le10 (a := n) (k := 9) (by decide) h
    simp only [PyData.shown]
    rw [PySem.ofString_length]
    omega
  have a1 : ∀ ns : List Int, (∀ n ∈ ns, n.natAbs < 1000000000) → PyData.showableAll (ns.map PyData.int) = true := fun ns => by
    induction ns with
    | nil => intro _; rfl
    | cons b bs ih =>
      intro h
      show (PyData.showable (.int b) && _) = true
      rw [ih fun n hn => h n (List.mem_cons_of_mem _ hn), Bool.and_true]
      simp only [PyData.showable, decide_eq_true_eq]
      have := hlog b (h b List.mem_cons_self)
      omega
  have a2 : ∀ ns : List Int, (∀ n ∈ ns, n.natAbs < 1000000000) → PyData.leavesShortAll 10 (ns.map PyData.int) = true := fun ns => by
    induction ns with
    | nil => intro _; rfl
    | cons b bs ih =>
      intro h
      show (PyData.leavesShort 10 (.int b) && _) = true
      rw [ih fun n hn => h n (List.mem_cons_of_mem _ hn), Bool.and_true]
      simp only [PyData.leavesShort, decide_eq_true_eq]
      exact hlen b (h b List.mem_cons_self)
  have a3 : ∀ ns : List Int, (∀ n ∈ ns, n.natAbs < 1000000000) → PyData.weightAll (ns.map PyData.int) ≤ 32 * ns.length := fun ns => by
    induction ns with
    | nil => intro _; exact Nat.zero_le _
    | cons b bs ih =>
      intro h
      have i1 := ih fun n hn => h n (List.mem_cons_of_mem _ hn)
      have i2 := hlog b (h b List.mem_cons_self)
      show PyData.weight (.int b) + 1 + PyData.weightAll (bs.map PyData.int) ≤ _
      have e : PyData.weight (.int b) ≤ 30 := by
        simp only [PyData.weight]
        split <;> omega
      rw [List.length_cons]
      omega
  have a4 : ∀ ns : List Int, PyData.depthAll (ns.map PyData.int) = 0 := fun ns => by
    induction ns with
    | nil => rfl
    | cons b bs ih => show max (PyData.depth (.int b)) _ = 0; rw [ih]; simp [PyData.depth]
  refine ⟨?_, PyData.shown_fits (B := 10) (by decide) (by decide) ?_ ?_, ?_⟩
  · simp only [PyData.showable]; exact a1 ns hn
  · simp only [PyData.leavesShort]; exact a2 ns hn
  · simp only [PyData.weight]
    have h1 := a3 ns hn
    have e : (2 : Nat) ^ 20 = 1048576 := by decide
    omega
  · simp only [PyData.depth, a4]; decide
theorem dp_bls {K : PySem.W.Frag} {H : Hp} : ∀ bs : List Bool, DpAll K H (bs.map V.bl) (bs.map PyData.bool)
  | [] => .nil
  | b :: bs => .cons (.bl b) (dp_bls bs)
theorem dp_ints {K : PySem.W.Frag} {H : Hp} : ∀ ns : List Int, DpAll K H (ns.map V.int) (ns.map PyData.int)
  | [] => .nil
  | b :: bs => .cons (.int b) (dp_ints bs)
/-! ### calls with keywords alone -/
def k1 {α : Type} : List α → List α → List α
  | [], [w] => [w]
  | _, _ => []
def k2 {α : Type} : List α → List α → List α
  | [], [w, v] => [v, w]
  | _, _ => []
theorem k1_rel : ∀ {vs : List V} {us : List Value} {zs : List V} {ws : List Value}, Vals vs us → Vals zs ws → Vals (k1 vs zs) (k1 us ws)
  | _, _, _, _, .nil, .nil => .nil
  | _, _, _, _, .nil, .cons r .nil => .cons r .nil
  | _, _, _, _, .nil, .cons _ (.cons _ _) => .nil
  | _, _, _, _, .cons _ _, .nil => .nil
  | _, _, _, _, .cons _ _, .cons _ _ => .nil
theorem k2_rel : ∀ {vs : List V} {us : List Value} {zs : List V} {ws : List Value}, Vals vs us → Vals zs ws → Vals (k2 vs zs) (k2 us ws)
  | _, _, _, _, .nil, .nil => .nil
  | _, _, _, _, .nil, .cons _ .nil => .nil
  | _, _, _, _, .nil, .cons r (.cons s .nil) => .cons s (.cons r .nil)
  | _, _, _, _, .nil, .cons _ (.cons _ (.cons _ _)) => .nil
  | _, _, _, _, .cons _ _, .nil => .nil
  | _, _, _, _, .cons _ _, .cons _ _ => .nil
/-- f(n = v) -/
theorem kb1 {K : PySem.W.Frag} {x n : Str} {st : Stmt} {f : Addr} {fd : FuncData} (F : Fun K x x st f fd)
    (h : ∀ (kV doc pm : Value) (an : Option Addr) (cdv ct w : Value), bindArgs (PySem.W.fnOf x x (defArgs st) (defBody st) (defScope st) .none kV doc pm an cdv ct) ⟨[], [(n, w)]⟩ = pure [(n, w)]) : KBinds K fd [n] [n] k1 k1 := by
  refine ⟨fun s us ws X hl => ?_, k1_rel⟩
  obtain ⟨oc, od, kV, doc, pm, an, cdv, ct, osl, rfl, lk, hcd⟩ := F.ex
  match us, ws, hl with
  | [], [w], _ => exact .of_eq (h kV doc pm an cdv ct w)
/-- f(m = v, n = w), the other way round -/
theorem kb2 {K : PySem.W.Frag} {x n m : Str} {st : Stmt} {f : Addr} {fd : FuncData} (F : Fun K x x st f fd)
    (h : ∀ (kV doc pm : Value) (an : Option Addr) (cdv ct w v : Value), bindArgs (PySem.W.fnOf x x (defArgs st) (defBody st) (defScope st) .none kV doc pm an cdv ct) ⟨[], [(m, w), (n, v)]⟩ = pure [(n, v), (m, w)]) : KBinds K fd [n, m] [m, n] k2 k2 := by
  refine ⟨fun s us ws X hl => ?_, k2_rel⟩
  obtain ⟨oc, od, kV, doc, pm, an, cdv, ct, osl, rfl, lk, hcd⟩ := F.ex
  match us, ws, hl with
  | [], [w, v], _ => exact .of_eq (h kV doc pm an cdv ct w v)
end L3
/-! min of texts, with key= or not; what the order of keys says. -/
namespace L3
open PySem PySem.Spec PyProof.Rows L2
/-- the order of keys -/
def kLt (x y : Int × List Nat) : Prop := x.1 < y.1 ∨ (x.1 = y.1 ∧ x.2 < y.2)
instance (x y : Int × List Nat) : Decidable (kLt x y) := by unfold kLt; exact inferInstance
theorem lexStr (a b : List Nat) : PyProof.Rows.lexLt PyProof.Rows.itemOrd [Sum.inr a, Sum.inl 0] [Sum.inr b, Sum.inl 0] = decide (a < b) := by
  by_cases e : a = b
  · subst e
    rw [PyProof.Rows.lex_self]
    rw [decide_eq_false (List.lt_irrefl a)]
    decide +kernel
  · rw [PyProof.Rows.lex_diff (O := PyProof.Rows.itemOrd) (fun z => e (Sum.inr.inj z))]
    rfl
theorem dLt_key (kf : KF) (a b : List Nat) : PySem.W.dataLt (kD kf a) (kD kf b) = decide (kLt (kf a) (kf b)) := by
  show PyProof.Rows.lexLt PyProof.Rows.itemOrd [Sum.inl 1, Sum.inl (kf a).1, Sum.inl 1, Sum.inr (kf a).2, Sum.inl 0] [Sum.inl 1, Sum.inl (kf b).1, Sum.inl 1, Sum.inr (kf b).2, Sum.inl 0] = _
  rw [PyProof.Rows.lex_self]
  by_cases e : (kf a).1 = (kf b).1
  · rw [e, PyProof.Rows.lex_self, PyProof.Rows.lex_self, lexStr]
    refine decide_eq_decide.mpr ⟨fun h => .inr ⟨e, h⟩, fun h => ?_⟩
    rcases h with h | h
    · omega
    · exact h.2
  · rw [PyProof.Rows.lex_diff (O := PyProof.Rows.itemOrd) (fun z => e (Sum.inl.inj z))]
    show decide ((kf a).1 < (kf b).1) = _
    refine decide_eq_decide.mpr ⟨fun h => .inl h, fun h => ?_⟩
    rcases h with h | h
    · exact h
    · exact absurd h.1 e
theorem dLt_str (a b : List Nat) : PySem.W.dataLt (.str (tS a)) (.str (tS b)) = decide (a < b) := by
  show PyProof.Rows.lexLt PyProof.Rows.itemOrd [Sum.inr a] [Sum.inr b] = _
  by_cases e : a = b
  · subst e
    rw [PyProof.Rows.lex_self]
    rw [decide_eq_false (List.lt_irrefl a)]
    decide +kernel
  · rw [PyProof.Rows.lex_diff (O := PyProof.Rows.itemOrd) (fun z => e (Sum.inr.inj z))]
    rfl
theorem kLt_irr (x : Int × List Nat) : ¬ kLt x x := fun h => by
  rcases h with h | h
  · omega
  · exact List.lt_irrefl _ h.2
theorem kLt_tr {x y z : Int × List Nat} (a : kLt x y) (b : kLt y z) : kLt x z := by
  rcases a with a | ⟨a, a'⟩ <;> rcases b with b | ⟨b, b'⟩
  · exact .inl (by omega)
  · exact .inl (by omega)
  · exact .inl (by omega)
  · exact .inr ⟨by omega, List.lt_trans a' b'⟩
theorem kLt_ntr {x y z : Int × List Nat} (a : ¬ kLt y x) (b : ¬ kLt z y) : ¬ kLt z x := fun h => by
  unfold kLt at a b h
  have le1 : ¬ y.2 < x.2 → ¬ z.2 < y.2 → ¬ z.2 < x.2 := fun h1 h2 => List.not_lt.mpr (List.le_trans (List.not_lt.mp h1) (List.not_lt.mp h2))
  by_cases e1 : y.1 = x.1
  · by_cases e2 : z.1 = y.1
    · have n1 : ¬ y.2 < x.2 := fun k => a (.inr ⟨e1, k⟩)
      have n2 : ¬ z.2 < y.2 := fun k => b (.inr ⟨e2, k⟩)
      rcases h with h | h
      · omega
      · exact le1 n1 n2 h.2
    · have : ¬ z.1 < y.1 := fun k => b (.inl k)
      rcases h with h | h <;> omega
  · have h1 : ¬ y.1 < x.1 := fun k => a (.inl k)
    have h2 : ¬ z.1 < y.1 := fun k => b (.inl k)
    rcases h with h | h <;> omega
/-- the sorted list goes up -/
theorem sortT_up (kf : KF) (ts : List (List Nat)) : (sortT kf ts).Pairwise fun a b => ¬ kLt (kf b) (kf a) := by
  have hle : ∀ a b : List Nat, PySem.W.dataLe false (kD kf) a b = true ↔ ¬ kLt (kf b) (kf a) := fun a b => by
    show (!PySem.W.dataLt (kD kf b) (kD kf a)) = true ↔ _
    rw [dLt_key, Bool.not_eq_true', decide_eq_false_iff_not]
  have h := List.pairwise_mergeSort (le := PySem.W.dataLe false (kD kf)) (fun a b c h1 h2 => (hle a c).mpr (kLt_ntr ((hle a b).mp h1) ((hle b c).mp h2))) (fun a b => by
    by_cases e : kLt (kf b) (kf a)
    · rw [Bool.or_eq_true]; exact .inr ((hle b a).mpr fun k => kLt_irr _ (kLt_tr e k))
    · rw [Bool.or_eq_true]; exact .inl ((hle a b).mpr e)) ts
  exact h.imp fun {a b} k => (hle a b).mp k
theorem sortT_head {kf : KF} {ts : List (List Nat)} {m : List Nat} (h : (sortT kf ts)[0]? = some m) : m ∈ ts ∧ ∀ y ∈ ts, ¬ kLt (kf y) (kf m) := by
  have hp := sortT_perm kf ts
  have hu := sortT_up kf ts
  cases e : sortT kf ts with
  | nil => rw [e] at h; cases h
  | cons a l =>
    rw [e] at h hp hu
    cases h
    refine ⟨hp.mem_iff.mp List.mem_cons_self, fun y hy => ?_⟩
    rcases List.mem_cons.mp (hp.mem_iff.mpr hy) with rfl | hm
    · exact kLt_irr _
    · exact (List.pairwise_cons.mp hu).1 y hm
theorem argBest_min {bt : Nat → Nat → Bool} (irr : ∀ i, bt i i = false) (tr : ∀ i j k, bt i j = true → bt j k = true → bt i k = true) : ∀ k, argBest bt k ≤ k ∧ ∀ j, j ≤ k → bt j (argBest bt k) = false
  | 0 => ⟨Nat.le_refl _, fun j hj => by rw [Nat.le_zero.mp hj]; exact irr 0⟩
  | k + 1 => by
    obtain ⟨h1, h2⟩ := argBest_min irr tr k
    have e : argBest bt (k + 1) = if bt (k + 1) (argBest bt k) then k + 1 else argBest bt k := rfl
    rw [e]
    by_cases c : bt (k + 1) (argBest bt k) = true
    · rw [if_pos c]
      refine ⟨Nat.le_refl _, fun j hj => ?_⟩
      by_cases ej : j = k + 1
      · rw [ej]; exact irr _
      · cases hb : bt j (k + 1) with
        | false => rfl
        | true =>
          have := h2 j (by omega)
          rw [tr j (k + 1) _ hb c] at this
          cases this
    · rw [if_neg c]
      refine ⟨by omega, fun j hj => ?_⟩
      by_cases ej : j = k + 1
      · rw [ej]; simpa using c
      · exact h2 j (by omega)
section
variable {X : Cx} {pins : List (Addr × Obj)} {σ : L2.St} {H : Hp} {s : Shared}
/-- min(texts) -/
def rMinT (K : PySem.W.Frag) : List V → Hp → VK → Prop := fun vs H Q => ∃ (a : Addr) (ts : List (List Nat)), vs = [.ref a] ∧ SqL K H a (ts.map tx) ∧ ts ≠ [] ∧ ∀ m, m ∈ ts → (∀ y ∈ ts, ¬ y < m) → Q (tx m) H
theorem minD_txs : ∀ (ls : List (List Nat)) (l : List Nat), ∃ m, PySem.W.minD (.str (tS l)) (dTx ls) = .str (tS m) ∧ m ∈ l :: ls ∧ ∀ y ∈ l :: ls, ¬ y < m
  | [], l => ⟨l, rfl, List.mem_cons_self, fun y hy => by
      simp only [List.mem_singleton] at hy
      rw [hy]; exact List.lt_irrefl l⟩
  | b :: ls, l => by
    show ∃ m, PySem.W.minD (if PySem.W.dataLt (.str (tS b)) (.str (tS l)) = true then .str (tS b) else .str (tS l)) (dTx ls) = .str (tS m) ∧ _
    rw [dLt_str]
    by_cases c : b < l
    · rw [if_pos (decide_eq_true c)]
      obtain ⟨m, h1, h2, h3⟩ := minD_txs ls b
      refine ⟨m, h1, List.mem_cons_of_mem _ h2, fun y hy => ?_⟩
      rcases List.mem_cons.mp hy with rfl | hy
      · exact fun z => h3 b List.mem_cons_self (List.lt_trans c z)
      · exact h3 y hy
    · rw [if_neg (by simpa using c)]
      obtain ⟨m, h1, h2, h3⟩ := minD_txs ls l
      refine ⟨m, h1, ?_, fun y hy => ?_⟩
      · rcases List.mem_cons.mp h2 with rfl | h2
        · exact List.mem_cons_self
        · exact List.mem_cons_of_mem _ (List.mem_cons_of_mem _ h2)
      · rcases List.mem_cons.mp hy with rfl | hy
        · exact h3 _ List.mem_cons_self
        · rcases List.mem_cons.mp hy with rfl | hy
          · have h4 := h3 l List.mem_cons_self
            exact List.not_lt.mpr (List.le_trans (List.not_lt.mp h4) (List.not_lt.mp c))
          · exact h3 y (List.mem_cons_of_mem _ hy)
theorem reads_txs {h : Heap} : ∀ {ts : List (List Nat)} {vs : List Value}, Vals (ts.map tx) vs → ∃ as, ReadsAll h vs (dTx ts) as
  | [], _, r => by cases r; exact ⟨_, .nil⟩
  | _ :: _, _, r => by
    cases r with
    | cons r1 r2 =>
      obtain ⟨t, rfl⟩ := r1
      obtain ⟨as, k⟩ := reads_txs (h := h) r2
      exact ⟨_, .cons (.str _ _) k⟩
theorem cr_minT {k : Nat} (hc : X.calm = true) (hr : Room k X.A) : CallR X (.builtin "min") (rMinT X.K) := by
  intro pins s σ H vs us Q I r h
  obtain ⟨a, ts, rfl, hs, hne, q⟩ := h
  obtain ⟨its, rv, hl, _⟩ := I.list hs
  rw [Vals.ref1 r]
  cases ts with
  | nil => exact absurd rfl hne
  | cons l ls =>
    obtain ⟨as, hR⟩ := reads_txs (h := s.heap) rv
    have hdep : PyData.depthAll (dTx (l :: ls)) = 0 := depthAll_txs _
    have hu := hr.units
    refine PySem.W.min_list_data (I.ok.hd hc) hl.isList (x := .str (tS l)) (xs := dTx ls) hR ⟨fun x hx y hy => ?_, fun x hx => ?_⟩ (by show X.A.units + 1 + PyData.depthAll (dTx (l :: ls)) < cLine; rw [hdep]; omega) fun i v h' tk bs hi hRd hk => ?_
    · obtain ⟨x', _, rfl⟩ := List.mem_map.mp (show x ∈ dTx (l :: ls) from hx)
      obtain ⟨y', _, rfl⟩ := List.mem_map.mp (show y ∈ dTx (l :: ls) from hy)
      rfl
    · obtain ⟨x', _, rfl⟩ := List.mem_map.mp (show x ∈ dTx (l :: ls) from hx)
      exact fun z => by cases z
    · obtain ⟨m, h1, h2, h3⟩ := minD_txs ls l
      rw [h1] at hRd
      cases hRd
      exact ⟨tx m, H, I.kept hk, ⟨_, rfl⟩, q m h2 h3⟩
end
end L3
/-! min(texts, key=f), f a def. -/
namespace L3
open PySem PySem.Spec PyProof.Rows L2
section
variable {X : Cx} {pins : List (Addr × Obj)} {σ : L2.St} {H : Hp} {s : Shared}
theorem Inv.env00 (I : L2.Inv X pins σ H s) : Env0 X.prog X.w X.K X.mg X.base X.A X.stack s (fun _ => none) :=
  ⟨I.env0.frames, I.env0.mod, fun b o e => ⟨(I.env0.bs b o e).1, rfl⟩, I.env0.bsz, I.env0.funs, fun _ _ => rfl, (fun a o e => by cases e), I.env0.bare⟩
/-- a def that gives a key, run with nothing tracked: all that stood stays -/
theorem kcall_raw {k : Nat} {f : Addr} {fd : FuncData} {x : Str} {kf : KF} {l : List Nat} {t : Tok} {Q : Value → Shared → Prop} {E : Value → Shared → Prop} (F : FnOk X.prog X.w X.K X.mg X.base CX0 k f fd [x] (spKey kf)) (hr : Room (k + 1) X.A) (hb : L2.Binds X.K fd [x] []) (I : L2.Inv X pins σ H s) (hl : l.length ≤ sizeLine)
    (h : ∀ p s', L2.Inv X pins σ H s' → (∀ b o, s.heap.get? b = some o → b ∉ frs X.stack → s'.heap.get? b = some o) → s.heap.get? p = none → (∃ its, Vals [.int (kf l).1, tx (kf l).2] its ∧ IsTup s'.heap p its.toArray) → Q (.ref p) s') :
    wpAny (model X.prog X.w) X.A.in1 (call (.ref f) [.str (tS l) t]) Q E s := by
  have hb' : BindsTo s fd ⟨[.str (tS l) t], []⟩ ([x].zip [.str (tS l) t]) := hb s [.str (tS l) t] I.kIn rfl
  refine wpAny_call (codeAny_mono (F.run X.A.in1 X.stack s (fun _ => none) ⟨[.str (tS l) t], []⟩ [.str (tS l) t] [tx l] (fun v H' => ∃ p, v = .ref p ∧ H' p = some (.tup [.int (kf l).1, tx (kf l).2])) E0 hr.in1 (Inv.env00 I).in1 hb' (.cons ⟨t, rfl⟩ .nil) ⟨l, rfl, hl, fun H' p s1 hp => ⟨p, rfl, hp⟩⟩) fun r s' hq => ?_)
  cases r with
  | error e => exact (show False from hq).elim
  | ok fl =>
    cases fl with
    | ret u =>
      obtain ⟨v, H', os, bare, un, hok, rv, p, rfl, hp⟩ := hq
      cases rv
      have kp : ∀ b o, s.heap.get? b = some o → b ∉ frs X.stack → s'.heap.get? b = some o := fun b o e n => un.keep b o e rfl n (by simp)
      have tr : ∀ b u, H b = some u → b ∉ frs X.stack := fun b u e hb => by
        rw [I.stkFree b hb] at e
        cases e
      refine h p s' (I.call' (ch := []) os ⟨fun b o e _ nf _ => kp b o e nf, fun b o e _ bf bx => un.slot b o e rfl bf bx, fun b o _ n _ => n, un.there, fun _ _ e => e, fun _ _ _ e => e, fun b ps e => ⟨#[], by rw [e]; simp⟩⟩ (fun b u q => ?_) bare (fun b hb => by simp at hb)) kp ?_ ?_
      · refine (I.hok b u q).stay (fun d v hd q' => ?_) (fun _ e => e) fun _ _ e => e
        rcases hd with rfl | hd
        · exact kp _ _ q' (tr _ _ q)
        · exact kp _ _ q' (tr _ _ hd)
      · cases hlt : s.heap.get? p with
        | none => rfl
        | some o =>
          have := un.free p o hlt rfl (by simp)
          rw [this] at hp
          cases hp
      · obtain ⟨_, its, r, T⟩ := hok p _ hp
        exact ⟨its, r, T⟩
    | next => exact False.elim hq
    | brk => exact False.elim hq
    | cont => exact False.elim hq
theorem key_reads {h : Heap} {p : Addr} {kf : KF} {l : List Nat} {its : List Value} (r : Vals [.int (kf l).1, tx (kf l).2] its) (T : IsTup h p its.toArray) : ∃ as, Reads h (.ref p) (kD kf l) as := by
  obtain ⟨o, ho, hc, n, hd⟩ := T
  cases r with
  | cons r1 r2 =>
    cases r2 with
    | cons r2 r3 =>
      cases r3
      obtain ⟨t1, rfl⟩ := r1
      obtain ⟨t2, rfl⟩ := r2
      exact ⟨_, .tuple ho hc hd (.cons (.int _ _) (.cons (.str _ _) .nil))⟩
def rMinKey (f : Addr) (kf : KF) : List V → List V → Hp → VK → Prop := fun vs zs H Q => ∃ (a : Addr) (ts : List (List Nat)), vs = [.ref a] ∧ zs = [.ref f] ∧ H a = some (.lst (ts.map tx)) ∧ ts ≠ [] ∧ (∀ l ∈ ts, l.length ≤ sizeLine) ∧
  ∀ m, m ∈ ts → (∀ y ∈ ts, ¬ kLt (kf y) (kf m)) → Q (tx m) H
theorem cr_minKey {k : Nat} {f : Addr} {fd : FuncData} {x : Str} {kf : KF} (hc : X.calm = true) (F : FnOk X.prog X.w X.K X.mg X.base CX0 k f fd [x] (spKey kf)) (hr : Room (k + 1) X.A) (hb : L2.Binds X.K fd [x] []) : CallRK X (.builtin "min") [Str.ofString "key"] (rMinKey f kf) := by
  intro pins s σ H vs zs us ws Q I r rz h
  obtain ⟨a, ts, rfl, rfl, hS, hne, hl, q⟩ := h
  obtain rfl := Vals.ref1 r
  obtain rfl := Vals.ref1 rz
  obtain ⟨its, rv, hL, hz⟩ := I.list (show SqL X.K H a (ts.map tx) from .inl (.inl hS))
  have hlen : its.length = ts.length := by rw [← rv.length, List.length_map]
  have hu := hr.units
  have eS := each_strs rv
  have hval : ∀ (i : Nat) (v : Value), its.toArray[i]? = some v → ∃ t, v = Value.str (tS (ts.getD i [])) t := fun i v hx => by
    rw [List.getElem?_toArray] at hx
    have hi : i < its.length := (List.getElem?_eq_some_iff.mp hx).1
    have hlj : ts[i]? = some (ts.getD i []) := by
      rw [List.getD_eq_getElem?_getD, List.getElem?_eq_getElem (by omega)]
      rfl
    exact eS.zip (v, ts.getD i []) (List.mem_of_getElem? (i := i) (by rw [List.getElem?_zip_eq_some]; exact ⟨hx, hlj⟩))
  have haf : a ∉ frs X.stack := fun hb => by rw [I.stkFree a hb] at hS; cases hS
  refine call_min_walkK (PySem.W.iter_listW (A := X.A.in1) (I.ok.hd hc) hL.isList fun s₂ e W st hfp hw hk => ?_)
  have hit := above_ok (it := s.heap.objs.size) I (Nat.le_refl _)
  have hn1 : H s.heap.objs.size = none := I.hok.fresh (Nat.le_refl _)
  have hsz : s₂.heap.objs.size = s.heap.objs.size + 1 := by rw [e]; exact Heap.size_push _ _
  have hS2 := above_ok (it := s₂.heap.objs.size) I (by rw [hsz]; exact Nat.le_succ _)
  have hn2 : H s₂.heap.objs.size = none := I.hok.fresh (by rw [hsz]; exact Nat.le_succ _)
  have I2 : L2.Inv X pins σ H s₂ := by rw [e]; exact I.kept (t' := s.toks) fun b o q => Heap.get?_push_of_some _ q
  refine ⟨_, _, _, _, _, _, _, L2.Inv X pins σ H, fun i kv s' => ∃ p, kv = .ref p ∧ p ≠ s₂.heap.objs.size ∧ p ≠ s.heap.objs.size ∧ p ∉ frs X.stack ∧ ∃ its, Vals [.int (kf (ts.getD i [])).1, tx (kf (ts.getD i [])).2] its ∧ IsTup s'.heap p its.toArray,
    fun i j => PySem.W.dataLt (kD kf (ts.getD i [])) (kD kf (ts.getD j [])), rfl, W, st, hfp, ?_, ⟨?_, ?_, ?_, ?_⟩, I2, ?_⟩
  · rw [List.size_toArray, hlen]
    exact List.length_pos_iff.mpr hne
  · intro s1 s2 J m
    obtain ⟨h', g', d', t', o'⟩ := s2
    have e1 : o' = s1.os := m.os
    have e2 : g' = s1.gens := m.gens
    have e3 : d' = s1.drawn := m.drawn
    subst e1 e2 e3
    refine J.turnedL (ch := [s₂.heap.objs.size, s.heap.objs.size]) (fun b o hb q => m.heap b o hb q) fun b hb => ?_
    simp only [List.mem_cons, List.not_mem_nil, or_false] at hb
    rcases hb with rfl | rfl
    · exact I.fpOk (by rw [hsz]; exact Nat.le_succ _) hn2
    · exact I.fpOk (Nat.le_refl _) hn1
  · rintro i kv s1 s2 ⟨p, rfl, p1, p2, p3, its', r', o, ho, c⟩ m
    exact ⟨p, rfl, p1, p2, p3, its', r', o, m.heap p o (by simp [p1, p2]) ho, c⟩
  · intro i v s1 o Q' E' hi hP J hst hS hQ
    have hi' : i < ts.length := by rw [List.size_toArray, hlen] at hi; exact hi
    obtain ⟨t, rfl⟩ := hval i v hP
    have hg : ts.getD i [] = ts[i] := by simp [List.getD, hi']
    refine kcall_raw F hr hb J (by rw [hg]; exact hl _ (List.getElem_mem hi')) fun p s' J' kp hp hT => ?_
    obtain ⟨⟨oi, hoi, ri⟩, hli⟩ := hst
    have hitf : s.heap.objs.size ∉ frs X.stack := hit.2.2.2.2
    have hSf : s₂.heap.objs.size ∉ frs X.stack := hS2.2.2.2.2
    refine hQ (.ref p) s' J' ⟨⟨oi, kp _ _ hoi hitf, ri⟩, ?_⟩ (kp _ _ hS hSf) ⟨p, rfl, ?_, ?_, ?_, hT⟩ ?_
    · exact hli.at fun o e => kp _ _ e haf
    · exact fun z => by rw [z, hS] at hp; cases hp
    · exact fun z => by rw [z, hoi] at hp; cases hp
    · intro hb
      obtain ⟨_, o2, ho2, _⟩ := J.stack.mem hb
      rw [hp] at ho2
      cases ho2
    · rintro j kv ⟨p', rfl, p1, p2, p3, its', r', o', ho', c⟩
      exact ⟨p', rfl, p1, p2, p3, its', r', o', kp _ _ ho' p3, c⟩
  · rintro i j ki kj s1 Q' E' J ⟨p, rfl, _, _, _, its1, r1, T1⟩ ⟨p', rfl, _, _, _, its2, r2, T2⟩ hq
    obtain ⟨as1, R1⟩ := key_reads r1 T1
    obtain ⟨as2, R2⟩ := key_reads r2 T2
    refine PySem.W.rcLt_alike _ _ X.A.in1 s1 _ _ _ _ R1 R2 (kD_alike kf _ _) (fun z => by cases z) ?_ X.prog X.w E' Q' hq
    show X.A.units + 1 + _ < cLine
    have : min (kD kf (ts.getD i [])).depth (kD kf (ts.getD j [])).depth ≤ 2 := Nat.le_trans (Nat.min_le_left _ _) (by simp [kD, PyData.depth, PyData.depthAll])
    omega
  · intro v s' hP J
    rw [List.size_toArray, hlen] at hP
    obtain ⟨t, rfl⟩ := hval _ _ hP
    have hpos : 0 < ts.length := List.length_pos_iff.mpr hne
    obtain ⟨hb1, hb2⟩ := argBest_min (bt := fun i j => PySem.W.dataLt (kD kf (ts.getD i [])) (kD kf (ts.getD j []))) (fun i => by rw [dLt_key]; exact decide_eq_false (kLt_irr _)) (fun i j k h1 h2 => by
      rw [dLt_key] at h1 h2 ⊢
      exact decide_eq_true (kLt_tr (of_decide_eq_true h1) (of_decide_eq_true h2))) (ts.length - 1)
    refine ⟨tx _, H, J, ⟨t, rfl⟩, q _ ?_ fun y hy => ?_⟩
    · rw [List.getD_eq_getElem?_getD, List.getElem?_eq_getElem (by omega)]
      exact List.getElem_mem (by omega)
    · obtain ⟨j, hj, rfl⟩ := List.getElem_of_mem hy
      have := hb2 j (by omega)
      rw [dLt_key] at this
      have e2 : ts.getD j [] = ts[j] := by rw [List.getD_eq_getElem?_getD, List.getElem?_eq_getElem hj]; rfl
      rw [e2] at this
      exact of_decide_eq_false this
end
end L3
/-! Loops over a dict that nothing changes any more; cuts of lists. -/
namespace L3
open PySem PySem.Spec PyProof.Rows L2
/-- for k in e, e a dict: locked from here on -/
def iKeysN (td : TE) : TI := fun σ H R => td σ H fun x H1 => ∃ d kvs, x = .ref d ∧ H1 d = some (.dK kvs) ∧ ∀ o, R (Itk d o kvs) (upd H1 d (.frz o (.dK kvs)))
theorem pi_keysN {X : Cx} {tg e : Expr} {td : TE} (he : PE X e td) : PI X tg e (iKeysN td) := by
  refine ⟨fun pins s σ H R I h => ?_⟩
  refine thn (he.run pins s σ H _ I h) fun u s1 ⟨x, H1, I1, rx, d, kvs, ex, hd, q⟩ => ?_
  subst ex
  obtain rfl : u = Value.ref d := rx
  obtain ⟨od, I2⟩ := I1.lock hd trivial
  obtain ⟨hs, hgd, hx, es, ep, vs, hdt, hsz, kv, hm⟩ := I2.frzK upd_same
  refine iter_keys hs hgd hx hdt (pi_one (tk := s1.toks) I2 _ (turn_keys _ hdt) ⟨_, Heap.get?_push_size _ rfl, rfl, ?_⟩ (q od))
  rw [hsz] <;> rfl
theorem sq_put {K : PySem.W.Frag} {a D : Addr} {xs : List V} {H : Hp} {o : HO} (h : SqL K H a xs) (n : a ≠ D) : SqL K (upd H D o) a xs := by
  rcases h with (h | ⟨o', h⟩) | h
  · exact .inl (.inl (by rw [upd_ne n]; exact h))
  · exact .inl (.inr ⟨o', by rw [upd_ne n]; exact h⟩)
  · exact .inr h
theorem sq_new {K : PySem.W.Frag} {a D : Addr} {xs : List V} {H : Hp} {o : HO} (h : SqL K H a xs) (n : H D = none) : SqL K (upd H D o) a xs := by
  rcases h with (h | ⟨o', h⟩) | h
  · exact .inl (.inl (same_upd n _ _ h))
  · exact .inl (.inr ⟨o', same_upd n _ _ h⟩)
  · exact .inr h
theorem sq_same {K : PySem.W.Frag} {a : Addr} {xs : List V} {H H' : Hp} (h : SqL K H a xs) (s : Same H H') : SqL K H' a xs := by
  rcases h with (h | ⟨o', h⟩) | h
  · exact .inl (.inl (s _ _ h))
  · exact .inl (.inr ⟨o', s _ _ h⟩)
  · exact .inr h
/-- what a statement's ends have in common -/
theorem join {t : TS} {D : Ends} {σ : L2.St} {H : Hp} (R : L2.St → Hp → Prop) (h : ∀ N : L2.St → Hp → Prop, (∀ σ' H', R σ' H' → N σ' H') → t { D with nx := N } σ H) (k : ∀ σ' H', R σ' H' → D.nx σ' H') : t D σ H := h D.nx k
/-- an if whose test comes out false -/
theorem if_no {tc : TT} {t u : TS} {D : Ends} {σ : L2.St} {H : Hp} (R : Hp → Prop) (hc : ∀ Q : Bool → Hp → Prop, (∀ H1, R H1 → Q false H1) → tc σ H Q) (k : ∀ H1, R H1 → u D σ H1) : tIfS tc t u D σ H :=
  hc _ fun H1 r => iteF (k H1 r)
theorem next_to {D : Ends} {σ : L2.St} {H : Hp} (h : D.nx σ H) : tNext D σ H := h
theorem seq_to {t u : TS} {D : Ends} {σ : L2.St} {H : Hp} (h : t { D with nx := u D } σ H) : tSeq t u D σ H := h
theorem cut1 (xs : List V) : cutV xs (some 1) none = xs.drop 1 := by
  unfold cutV
  have e1 : HT.sIx xs.length 0 (some 1) = min 1 xs.length := HT.sIx_nat xs.length 0 1
  rw [e1, HT.sIx_none]
  by_cases h : 1 ≤ xs.length
  · rw [Nat.min_eq_left h, List.take_of_length_le (by rw [List.length_drop]; exact Nat.le_refl _)]
  · rw [Nat.min_eq_right (by omega), List.drop_of_length_le (Nat.le_refl _), List.drop_of_length_le (by omega)]
    simp
end L3
/-! How often a letter stands in a text. -/
namespace L3
open PySem PySem.Spec PyProof.Rows L2
theorem occ_run (x : Str) (c lim : Nat) (hlim : x.length < lim) : ∀ (n k : Nat) (acc : Array Nat) (f : Nat), k + n = x.length + 1 → f ≤ k → acc.size ≤ k →
    (forIn (List.range' k n) (acc, f) (StrLaws.occBody x ⟨#[c]⟩ x.length lim)).run.fst.size = acc.size + (x.cps.toList.drop k).count c
  | 0, k, acc, f, hk, hf, ha => by
    have e : x.cps.toList.drop k = [] := List.drop_of_length_le (by rw [Array.length_toList]; show x.length ≤ k; omega)
    rw [e]
    rfl
  | n + 1, k, acc, f, hk, hf, ha => by
    have hl : (⟨#[c]⟩ : Str).length = 1 := rfl
    rw [List.range'_succ, List.forIn_cons]
    by_cases hc : x.cps.toList[k]? = some c
    · have h1 := (StrLaws.subAt_one x c k).mpr hc
      have hlt : k < x.cps.toList.length := (List.getElem?_eq_some_iff.mp hc).1
      have hb : StrLaws.occBody x ⟨#[c]⟩ x.length lim k (acc, f) = pure (ForInStep.yield (acc.push k, k + 1)) := by
        unfold StrLaws.occBody
        rw [if_pos ⟨⟨⟨by show acc.size < lim; omega, hf⟩, h1.1⟩, h1.2⟩]
        rfl
      rw [hb]
      have ih := occ_run x c lim hlim n (k + 1) (acc.push k) (k + 1) (by omega) (Nat.le_refl _) (by rw [Array.size_push]; omega)
      have e : x.cps.toList.drop k = c :: x.cps.toList.drop (k + 1) := by
        rw [List.drop_eq_getElem_cons hlt]
        rw [List.getElem?_eq_getElem hlt] at hc
        rw [Option.some.inj hc]
      rw [e, List.count_cons_self]
      show (forIn (List.range' (k + 1) n) (acc.push k, k + 1) (StrLaws.occBody x ⟨#[c]⟩ x.length lim)).run.fst.size = _
      rw [ih, Array.size_push]
      omega
    · have hb : StrLaws.occBody x ⟨#[c]⟩ x.length lim k (acc, f) = pure (ForInStep.yield (acc, f)) := by
        unfold StrLaws.occBody
        rw [if_neg (fun z => hc ((StrLaws.subAt_one x c k).mp ⟨z.1.2, z.2⟩))]
      rw [hb]
      have ih := occ_run x c lim hlim n (k + 1) acc f (by omega) (by omega) (by omega)
      show (forIn (List.range' (k + 1) n) (acc, f) (StrLaws.occBody x ⟨#[c]⟩ x.length lim)).run.fst.size = _
      rw [ih]
      congr 1
      by_cases hlt : k < x.cps.toList.length
      · rw [List.drop_eq_getElem_cons hlt, List.count_cons_of_ne]
        intro z
        exact hc (by rw [List.getElem?_eq_getElem hlt, z])
      · rw [List.drop_of_length_le (by omega), List.drop_of_length_le (by omega)]
theorem count_one (l : List Nat) (c : Nat) : Txt.count (tS l) (tS [c]) = ((l.count c : Nat) : Int) := by
  unfold Txt.count
  rw [StrLaws.occ_eq]
  have h := occ_run (tS l) c ((tS l).length + 1) (by omega) ((tS l).length + 1 - 0) 0 #[] 0 (by omega) (Nat.le_refl _) (Nat.le_refl _)
  rw [Array.length_toList]
  have e : (tS l).cps.toList.drop 0 = l := by simp [tS]
  rw [e] at h
  have h2 : (forIn (List.range' 0 ((tS l).length + 1 - 0)) (#[], 0) (StrLaws.occBody (tS l) (tS [c]) (tS l).length ((tS l).length + 1))).run.fst.size = l.count c := by
    rw [show (tS [c]) = (⟨#[c]⟩ : Str) from rfl, h]
    simp
  rw [h2]
/-- a comprehension: R of the heap, A of the list so far; R asked of heaps that hold the list -/
theorem lc_gen2 {J : It} {n : Nat} {G : Hp → Prop} {Y : Nat → Hp → V → Hp → Prop} (w : Walk J n G Y) {g : TG} {tt : TT} {te : TE} {vs : List Nat} {σ : L2.St} {H1 : Hp} {D : Addr} {Qd : Hp → Prop} (R : Hp → Prop) (A : Nat → List V → Prop) (hz : n ≤ sizeLine) (hA : ∀ i acc, A i acc → acc.length ≤ i)
    (h0 : A 0 []) (r0 : R (upd H1 D (.lst []))) (r1 : ∀ H acc acc', H D = some (.lst acc) → R H → R (upd H D (.lst acc'))) (hG : ∀ H, R H → G H)
    (hs : ∀ i x H H' acc (C : VK) (N : Hp → Prop), i < n → R H → H D = some (.lst acc) → A i acc → Y i H x H' → (∀ v H4, R H4 → H4 D = some (.lst acc) → A (i + 1) (acc ++ [v]) → C v H4) → (∀ H3, R H3 → H3 D = some (.lst acc) → A (i + 1) acc → N H3) →
      g x (wipe σ vs) H' fun σ2 H2 => wipe σ2 vs = wipe σ vs ∧ tt σ2 H2 fun b H3 => if b = true then te σ2 H3 C else N H3)
    (hd : ∀ H xs, R H → H D = some (.lst xs) → A n xs → Qd H) :
    ∃ W : Nat → Nat → Hp → Prop, (∃ m, W 0 m (upd H1 D (.lst []))) ∧ ∀ i m H, W i m H →
      (J.stop i H ∧ Qd H) ∨ (J.go i H ∧ ∃ Nx : Hp → Prop, (∀ H', Nx H' → ∃ m', m' < m ∧ W (i + 1) m' H') ∧ ∀ x H', J.yld i H x H' → g x (wipe σ vs) H' fun σ2 H2 => wipe σ2 vs = wipe σ vs ∧ tt σ2 H2 fun b H3 =>
        if b = true then te σ2 H3 fun y H4 => ∃ acc, H4 D = some (.lst acc) ∧ acc.length < sizeLine ∧ Nx (upd H4 D (.lst (acc ++ [y]))) else Nx H3) := by
  refine lc_it w (fun i H => R H ∧ ∃ acc, H D = some (.lst acc) ∧ A i acc) ⟨r0, [], upd_same, h0⟩ (fun i H _ p => hG H p.1) (fun i x H H' hi p y => ?_) fun H p => ?_
  · obtain ⟨rH, acc, hD, ha⟩ := p
    refine hs i x H H' acc _ _ hi rH hD ha y (fun v H4 r4 d4 a4 => ⟨acc, d4, ?_, r1 _ _ _ d4 r4, _, upd_same, a4⟩) (fun H3 r3 d3 a3 => ⟨r3, acc, d3, a3⟩)
    have := hA i acc ha
    omega
  · obtain ⟨rH, acc, hD, ha⟩ := p
    exact hd H acc rH hD ha
section
variable {X : Cx}
theorem mt_countT : MtR X "str.count" (fun x xs H Q => ∃ (l : List Nat) (c : Nat), x = tx l ∧ xs = [tx [c]] ∧ Q (.int ((l.count c : Nat) : Int)) H) := by
  intro pins s σ H x xs v us Q I rx r h
  obtain ⟨l, c, rfl, rfl, q⟩ := h
  refine mt_count pins s σ H _ _ v us Q I rx r ⟨_, _, rfl, rfl, ?_⟩
  rw [count_one]
  exact q
end
end L3
/-! Parts of texts: all parts, how many there are, whether one is a part. Plain lists of codes. -/
namespace M11
/-! ### all parts, in the sequence of the dict -/
def ins (ks : List (List Nat)) (k : List Nat) : List (List Nat) := if k ∈ ks then ks else ks ++ [k]
def stepP (ks : List (List Nat)) (c : Nat) : List (List Nat) := ks.foldl (fun acc p => ins acc (p ++ [c])) ks
def subs (t : List Nat) : List (List Nat) := t.foldl stepP [[]]
theorem mem_ins {ks : List (List Nat)} {k x : List Nat} : x ∈ ins ks k ↔ x ∈ ks ∨ x = k := by
  unfold ins
  split
  · rename_i h
    constructor
    · exact .inl
    · rintro (h1 | rfl)
      · exact h1
      · exact h
  · simp
theorem nodup_ins {ks : List (List Nat)} {k : List Nat} (h : ks.Nodup) : (ins ks k).Nodup := by
  unfold ins
  split
  · exact h
  · rename_i hk
    rw [List.nodup_append]
    exact ⟨h, by simp, fun a ha b hb e => by
      simp at hb
      subst hb
      subst e
      exact hk ha⟩
theorem foldIns_mem (c : Nat) (x : List Nat) : ∀ (l acc : List (List Nat)), x ∈ l.foldl (fun acc p => ins acc (p ++ [c])) acc ↔ x ∈ acc ∨ ∃ p ∈ l, x = p ++ [c]
  | [], acc => by simp
  | p :: l, acc => by
    rw [List.foldl_cons, foldIns_mem c x l, mem_ins]
    simp only [List.mem_cons, exists_eq_or_imp]
    constructor
    · rintro ((h | h) | h)
      · exact .inl h
      · exact .inr (.inl h)
      · exact .inr (.inr h)
    · rintro (h | h | h)
      · exact .inl (.inl h)
      · exact .inl (.inr h)
      · exact .inr h
theorem foldIns_nodup (c : Nat) : ∀ (l acc : List (List Nat)), acc.Nodup → (l.foldl (fun acc p => ins acc (p ++ [c])) acc).Nodup
  | [], _, h => h
  | p :: l, acc, h => by
    rw [List.foldl_cons]
    exact foldIns_nodup c l _ (nodup_ins h)
theorem subs_snoc (t : List Nat) (c : Nat) : subs (t ++ [c]) = stepP (subs t) c := by
  unfold subs
  rw [List.foldl_append]
  rfl
/-- induction from behind -/
theorem snoc_ind {P : List Nat → Prop} (h0 : P []) (h1 : ∀ t c, P t → P (t ++ [c])) (t : List Nat) : P t := by
  rw [← List.reverse_reverse t]
  induction t.reverse with
  | nil => exact h0
  | cons a l ih =>
    rw [List.reverse_cons]
    exact h1 _ _ ih
theorem sub_snoc {x t : List Nat} {c : Nat} : x.Sublist (t ++ [c]) ↔ x.Sublist t ∨ ∃ p, p.Sublist t ∧ x = p ++ [c] := by
  constructor
  · intro h
    have h2 := h.reverse
    rw [List.reverse_append] at h2
    simp only [List.reverse_cons, List.reverse_nil, List.nil_append, List.singleton_append] at h2
    cases hx : x.reverse with
    | nil =>
      have : x = [] := by simpa using hx
      subst this
      exact .inl (List.nil_sublist _)
    | cons a l =>
      rw [hx] at h2
      cases h2 with
      | cons _ h3 =>
        rw [← hx] at h3
        have := h3.reverse
        simp at this
        exact .inl this
      | cons_cons _ h3 =>
        refine .inr ⟨l.reverse, ?_, ?_⟩
        · have := h3.reverse
          simpa using this
        · have := congrArg List.reverse hx
          simpa using this
  · rintro (h | ⟨p, h, rfl⟩)
    · exact h.trans (List.sublist_append_left _ _)
    · exact h.append (List.Sublist.refl _)
theorem mem_subs (t : List Nat) : ∀ x, x ∈ subs t ↔ x.Sublist t := by
  induction t using snoc_ind with
  | h0 => intro x; simp [subs]
  | h1 t c ih =>
    intro x
    rw [subs_snoc, stepP, foldIns_mem, sub_snoc, ih]
    constructor
    · rintro (h | ⟨p, hp, e⟩)
      · exact .inl h
      · exact .inr ⟨p, (ih p).mp hp, e⟩
    · rintro (h | ⟨p, hp, e⟩)
      · exact .inl h
      · exact .inr ⟨p, (ih p).mpr hp, e⟩
theorem nodup_subs (t : List Nat) : (subs t).Nodup := by
  induction t using snoc_ind with
  | h0 => simp [subs]
  | h1 t c ih =>
    rw [subs_snoc]
    exact foldIns_nodup c _ _ ih
theorem len_le {α : Type} [DecidableEq α] : ∀ {a b : List α}, a.Nodup → (∀ x, x ∈ a → x ∈ b) → a.length ≤ b.length
  | [], _, _, _ => Nat.zero_le _
  | x :: a, b, ha, h => by
    have hn := List.nodup_cons.mp ha
    have hx : x ∈ b := h x List.mem_cons_self
    have ih := len_le (b := b.erase x) hn.2 fun y hy => (List.mem_erase_of_ne (fun (e : y = x) => hn.1 (by rw [← e]; exact hy))).mpr (h y (List.mem_cons_of_mem _ hy))
    rw [List.length_erase_of_mem hx] at ih
    have := List.length_pos_of_mem hx
    rw [List.length_cons]
    omega
/-- lists without doubles and with the same members are as long -/
theorem len_of_mem {α : Type} [DecidableEq α] {a b : List α} (ha : a.Nodup) (hb : b.Nodup) (h : ∀ x, x ∈ a ↔ x ∈ b) : a.length = b.length :=
  Nat.le_antisymm (len_le ha fun x hx => (h x).mp hx) (len_le hb fun x hx => (h x).mpr hx)
/-! ### how many -/
/-- those that are parts also with c behind them -/
def withC (t : List Nat) (c : Nat) : Nat := ((subs t).filter fun p => decide ((p ++ [c]).Sublist t)).length
theorem ins_len (ks : List (List Nat)) (k : List Nat) : (ins ks k).length = ks.length + if k ∈ ks then 0 else 1 := by
  unfold ins
  split
  · rfl
  · simp
theorem foldIns_len (c : Nat) : ∀ (l acc : List (List Nat)), l.Nodup → (l.foldl (fun acc p => ins acc (p ++ [c])) acc).length = acc.length + (l.filter fun p => decide (¬ (p ++ [c]) ∈ acc)).length
  | [], acc, _ => by simp
  | p :: l, acc, h => by
    have hn := List.nodup_cons.mp h
    rw [List.foldl_cons, foldIns_len c l _ hn.2, ins_len, List.filter_cons]
    have e : (l.filter fun q => decide (¬ (q ++ [c]) ∈ ins acc (p ++ [c]))) = l.filter fun q => decide (¬ (q ++ [c]) ∈ acc) := by
      apply List.filter_congr
      intro q hq
      have : q ++ [c] ≠ p ++ [c] := fun e => hn.1 (List.append_cancel_right e ▸ hq)
      simp [mem_ins, this]
    rw [e]
    by_cases hp : (p ++ [c]) ∈ acc
    · simp [hp]
    · simp [hp]; omega
theorem filter_not_len {α : Type} (p : α → Bool) : ∀ l : List α, (l.filter p).length + (l.filter fun x => !p x).length = l.length
  | [] => rfl
  | x :: l => by
    have ih := filter_not_len p l
    rw [List.filter_cons, List.filter_cons]
    cases h : p x <;> simp [h] <;> omega
theorem snoc_sub_snoc {p t : List Nat} {c d : Nat} : (p ++ [d]).Sublist (t ++ [c]) ↔ (p ++ [d]).Sublist t ∨ (d = c ∧ p.Sublist t) := by
  rw [sub_snoc]
  constructor
  · rintro (h | ⟨q, hq, e⟩)
    · exact .inl h
    · have h1 := List.append_inj' e rfl
      obtain ⟨rfl, h2⟩ := h1
      simp at h2
      exact .inr ⟨h2, hq⟩
  · rintro (h | ⟨rfl, h⟩)
    · exact .inl h
    · exact .inr ⟨p, h, rfl⟩
theorem many_snoc (t : List Nat) (c : Nat) : (subs (t ++ [c])).length + withC t c = 2 * (subs t).length := by
  rw [subs_snoc, stepP, foldIns_len c _ _ (nodup_subs t)]
  have h := filter_not_len (fun p => decide ((p ++ [c]).Sublist t)) (subs t)
  have e : ((subs t).filter fun p => decide (¬ (p ++ [c]) ∈ subs t)) = (subs t).filter fun p => !decide ((p ++ [c]).Sublist t) := by
    apply List.filter_congr
    intro p _
    simp [mem_subs]
  rw [e]
  unfold withC
  omega
theorem withC_snoc (t : List Nat) (c d : Nat) : withC (t ++ [c]) d = if d = c then (subs t).length else withC t d := by
  unfold withC
  by_cases h : d = c
  · subst h
    rw [if_pos rfl]
    refine len_of_mem ((nodup_subs _).filter _) (nodup_subs t) fun x => ?_
    rw [List.mem_filter, mem_subs, mem_subs, decide_eq_true_eq, snoc_sub_snoc]
    constructor
    · rintro ⟨_, h | ⟨_, h⟩⟩
      · exact (List.sublist_append_left _ _).trans h
      · exact h
    · intro h
      exact ⟨h.trans (List.sublist_append_left _ _), .inr ⟨rfl, h⟩⟩
  · rw [if_neg h]
    refine len_of_mem ((nodup_subs _).filter _) ((nodup_subs _).filter _) fun x => ?_
    rw [List.mem_filter, List.mem_filter, mem_subs, mem_subs, decide_eq_true_eq, decide_eq_true_eq, snoc_sub_snoc]
    constructor
    · rintro ⟨_, h1 | ⟨h1, _⟩⟩
      · exact ⟨(List.sublist_append_left _ _).trans h1, h1⟩
      · exact absurd h1 h
    · rintro ⟨h1, h2⟩
      exact ⟨h1.trans (List.sublist_append_left _ _), .inl h2⟩
theorem withC_nil (c : Nat) : withC [] c = 0 := by simp [withC, subs]
/-- as many from the other end -/
theorem many_rev (t : List Nat) : (subs t.reverse).length = (subs t).length := by
  have h1 : ((subs t).map List.reverse).Nodup := by
    unfold List.Nodup
    rw [List.pairwise_map]
    exact (nodup_subs t).imp fun h e => h (by have := congrArg List.reverse e; simpa using this)
  rw [← List.length_map (as := subs t) List.reverse]
  refine len_of_mem (nodup_subs _) h1 fun x => ?_
  rw [mem_subs, List.mem_map]
  constructor
  · intro h
    refine ⟨x.reverse, (mem_subs t _).mpr ?_, List.reverse_reverse x⟩
    have := h.reverse
    simpa using this
  · rintro ⟨y, hy, rfl⟩
    exact ((mem_subs t y).mp hy).reverse
theorem subs_len_pos (t : List Nat) : 0 < (subs t).length := List.length_pos_of_mem ((mem_subs t []).mpr (List.nil_sublist _))
theorem subs_len_le (t : List Nat) : (subs t).length ≤ 2 ^ t.length := by
  induction t using snoc_ind with
  | h0 => simp [subs]
  | h1 t c ih =>
    have := many_snoc t c
    rw [List.length_append, List.length_singleton, Nat.pow_succ]
    omega
theorem many_rep (a : Nat) : ∀ n, (subs (List.replicate n a)).length = n + 1 ∧ withC (List.replicate n a) a = n
  | 0 => by simp [subs, withC]
  | n + 1 => by
    obtain ⟨h1, h2⟩ := many_rep a n
    rw [List.replicate_succ']
    have h3 := many_snoc (List.replicate n a) a
    have h4 := withC_snoc (List.replicate n a) a a
    rw [if_pos rfl] at h4
    omega
/-! ### whether one is a part -/
/-- how many letters of t have come behind w, from the place at on -/
def come (t : List Nat) (w : List Nat) (k : Nat) : Nat := w.foldl (fun k c => if t[k]? = some c then k + 1 else k) k
theorem come_le (t : List Nat) : ∀ (w : List Nat) (k : Nat), k ≤ t.length → come t w k ≤ t.length
  | [], k, h => h
  | c :: w, k, h => by
    show come t w (if t[k]? = some c then k + 1 else k) ≤ _
    split
    · rename_i e
      have := (List.getElem?_eq_some_iff.mp e).1
      exact come_le t w _ this
    · exact come_le t w _ h
theorem come_iff (t : List Nat) : ∀ (w : List Nat) (k : Nat), k ≤ t.length → (come t w k = t.length ↔ (t.drop k).Sublist w)
  | [], k, h => by
    show k = t.length ↔ _
    rw [List.sublist_nil]
    constructor
    · rintro rfl; simp
    · intro e
      have := congrArg List.length e
      rw [List.length_drop] at this
      simp at this
      omega
  | c :: w, k, h => by
    show come t w (if t[k]? = some c then k + 1 else k) = _ ↔ _
    by_cases hk : k < t.length
    · have hd : t.drop k = t[k] :: t.drop (k + 1) := List.drop_eq_getElem_cons hk
      by_cases e : t[k]? = some c
      · rw [if_pos e, come_iff t w (k + 1) hk, hd]
        have e2 : t[k] = c := by
          rw [List.getElem?_eq_getElem hk] at e
          exact Option.some.inj e
        rw [e2]
        constructor
        · exact fun h => h.cons_cons c
        · intro h
          cases h with
          | cons _ h => exact (List.sublist_cons_self _ _).trans h
          | cons_cons _ h => exact h
      · rw [if_neg e, come_iff t w k h, hd]
        constructor
        · exact fun h => h.cons c
        · intro h
          cases h with
          | cons _ h => exact h
          | cons_cons _ h => exact absurd (by rw [List.getElem?_eq_getElem hk]) e
    · have e0 : k = t.length := by omega
      have hn : t[k]? = none := List.getElem?_eq_none (by omega)
      rw [hn, if_neg (by simp), come_iff t w k h]
      have : t.drop k = [] := List.drop_of_length_le (by omega)
      rw [this]
      simp
/-! ### whether one is a part, by the first such letter from a place on -/
theorem sub_first {t r : List Nat} {c : Nat} : ∀ (n k : Nat), t[k + n]? = some c → (∀ v, k ≤ v → v < k + n → t[v]? ≠ some c) → ((c :: r).Sublist (t.drop k) ↔ r.Sublist (t.drop (k + n + 1)))
  | 0, k, h, _ => by
    have hk : k < t.length := (List.getElem?_eq_some_iff.mp h).1
    have e : t[k] = c := by
      have h2 : t[k]? = some c := h
      rw [List.getElem?_eq_getElem hk] at h2
      exact Option.some.inj h2
    rw [List.drop_eq_getElem_cons hk, e]
    exact List.cons_sublist_cons
  | n + 1, k, h, hn => by
    have hlt : k + (n + 1) < t.length := (List.getElem?_eq_some_iff.mp h).1
    have hk : k < t.length := by omega
    have e : t[k] ≠ c := fun e => hn k (Nat.le_refl _) (by omega) (by rw [List.getElem?_eq_getElem hk, e])
    have ih := sub_first (t := t) (r := r) (c := c) n (k + 1) (by rw [show k + 1 + n = k + (n + 1) by omega]; exact h) fun v h1 h2 => hn v (by omega) (by omega)
    rw [show k + (n + 1) + 1 = k + 1 + n + 1 by omega, ← ih, List.drop_eq_getElem_cons hk]
    constructor
    · intro z
      cases z with
      | cons _ z => exact z
      | cons_cons _ z => exact absurd rfl e
    · exact fun z => z.cons _
theorem sub_none {t r : List Nat} {c k : Nat} (h : ∀ v, k ≤ v → t[v]? ≠ some c) : ¬ (c :: r).Sublist (t.drop k) := fun z => by
  have hm : c ∈ t.drop k := z.subset List.mem_cons_self
  obtain ⟨i, hi⟩ := List.getElem?_of_mem hm
  rw [List.getElem?_drop] at hi
  exact h (k + i) (by omega) hi
/-! ### numbers by letters -/
def putN (kk : List (Nat × Int)) (c : Nat) (v : Int) : List (Nat × Int) := if c ∈ kk.map (·.1) then kk.map (fun p => if p.1 = c then (p.1, v) else p) else kk ++ [(c, v)]
def lookN : List (Nat × Int) → Nat → Int
  | [], _ => 0
  | p :: r, c => if p.1 = c then p.2 else lookN r c
def sumN (kk : List (Nat × Int)) : Int := (kk.map (·.2)).sum
theorem keys_put (kk : List (Nat × Int)) (c : Nat) (v : Int) : (putN kk c v).map (·.1) = if c ∈ kk.map (·.1) then kk.map (·.1) else kk.map (·.1) ++ [c] := by
  unfold putN
  split
  · rw [List.map_map]
    apply List.map_congr_left
    intro p _
    show (if p.1 = c then (p.1, v) else p).1 = p.1
    split <;> rfl
  · rw [List.map_append]
    rfl
theorem nodup_put {kk : List (Nat × Int)} (h : (kk.map (·.1)).Nodup) (c : Nat) (v : Int) : ((putN kk c v).map (·.1)).Nodup := by
  rw [keys_put]
  split
  · exact h
  · rename_i hc
    rw [List.nodup_append]
    exact ⟨h, by simp, fun a ha b hb e => by
      simp at hb
      subst hb
      subst e
      exact hc ha⟩
theorem look_notin : ∀ {kk : List (Nat × Int)} {c : Nat}, c ∉ kk.map (·.1) → lookN kk c = 0
  | [], _, _ => rfl
  | p :: r, c, h => by
    simp only [List.map_cons, List.mem_cons, not_or] at h
    unfold lookN
    rw [if_neg (fun e => h.1 e.symm)]
    exact look_notin h.2
theorem map_put_notin {c : Nat} {v : Int} : ∀ {kk : List (Nat × Int)}, c ∉ kk.map (·.1) → kk.map (fun p => if p.1 = c then (p.1, v) else p) = kk
  | [], _ => rfl
  | p :: r, h => by
    simp only [List.map_cons, List.mem_cons, not_or] at h
    rw [List.map_cons, map_put_notin h.2, if_neg (fun e => h.1 e.symm)]
theorem sum_map_put {c : Nat} {v : Int} : ∀ {kk : List (Nat × Int)}, (kk.map (·.1)).Nodup → c ∈ kk.map (·.1) → sumN (kk.map (fun p => if p.1 = c then (p.1, v) else p)) = sumN kk - lookN kk c + v
  | [], _, h => by simp at h
  | p :: r, hn, h => by
    simp only [List.map_cons, List.nodup_cons] at hn
    unfold sumN lookN
    by_cases e : p.1 = c
    · rw [if_pos e, List.map_cons, map_put_notin (by rw [← e]; exact hn.1), if_pos e]
      simp only [List.map_cons, List.sum_cons]
      omega
    · have h' : c ∈ r.map (·.1) := by
        simp only [List.map_cons, List.mem_cons] at h
        rcases h with h | h
        · exact absurd h.symm e
        · exact h
      have ih := sum_map_put (v := v) hn.2 h'
      unfold sumN at ih
      rw [if_neg e, List.map_cons, if_neg e]
      simp only [List.map_cons, List.sum_cons]
      omega
theorem sum_put {kk : List (Nat × Int)} (hn : (kk.map (·.1)).Nodup) (c : Nat) (v : Int) : sumN (putN kk c v) = sumN kk - lookN kk c + v := by
  unfold putN
  split
  · rename_i h
    exact sum_map_put hn h
  · rename_i h
    rw [look_notin h]
    unfold sumN
    rw [List.map_append, List.sum_append]
    simp
theorem look_map_put {c d : Nat} {v : Int} : ∀ {kk : List (Nat × Int)}, c ∈ kk.map (·.1) → lookN (kk.map (fun p => if p.1 = c then (p.1, v) else p)) d = if d = c then v else lookN kk d
  | [], h => by simp at h
  | p :: r, h => by
    rw [List.map_cons]
    by_cases e : p.1 = c
    · rw [if_pos e]
      unfold lookN
      dsimp only
      by_cases e2 : d = c
      · rw [if_pos e2, if_pos (by rw [e, e2])]
      · rw [if_neg e2, if_neg (fun z => e2 (z.symm.trans e)), if_neg (fun z => e2 (z.symm.trans e))]
        by_cases h2 : c ∈ r.map (·.1)
        · rw [look_map_put h2, if_neg e2]
        · rw [map_put_notin h2]
    · have h' : c ∈ r.map (·.1) := by
        simp only [List.map_cons, List.mem_cons] at h
        rcases h with h | h
        · exact absurd h.symm e
        · exact h
      rw [if_neg e]
      unfold lookN
      rw [look_map_put h']
      by_cases e3 : p.1 = d
      · rw [if_pos e3, if_pos e3, if_neg (fun z => e (e3.trans z))]
      · rw [if_neg e3, if_neg e3]
theorem look_snoc {c d : Nat} {v : Int} : ∀ {kk : List (Nat × Int)}, c ∉ kk.map (·.1) → lookN (kk ++ [(c, v)]) d = if d = c then v else lookN kk d
  | [], _ => by
    show (if c = d then v else 0) = _
    by_cases e : d = c
    · rw [if_pos e, if_pos e.symm]
    · rw [if_neg e, if_neg (fun z => e z.symm)]
      rfl
  | p :: r, h => by
    simp only [List.map_cons, List.mem_cons, not_or] at h
    rw [List.cons_append]
    unfold lookN
    rw [look_snoc h.2]
    by_cases e3 : p.1 = d
    · rw [if_pos e3, if_pos e3, if_neg (fun z => h.1 (z.symm.trans e3.symm))]
    · rw [if_neg e3, if_neg e3]
theorem look_put (kk : List (Nat × Int)) (c d : Nat) (v : Int) : lookN (putN kk c v) d = if d = c then v else lookN kk d := by
  unfold putN
  split
  · rename_i h
    exact look_map_put h
  · rename_i h
    exact look_snoc h
end M11
namespace M13
/-- x is no worse than y: longer, or as long and not behind -/
def leP (x y : List Nat) : Prop := y.length < x.length ∨ (y.length = x.length ∧ ¬ y < x)
/-- x is no worse than y: shorter, or as long and not behind -/
def leW (x y : List Nat) : Prop := x.length < y.length ∨ (x.length = y.length ∧ ¬ y < x)
instance (x y : List Nat) : Decidable (leP x y) := by unfold leP; exact inferInstance
instance (x y : List Nat) : Decidable (leW x y) := by unfold leW; exact inferInstance
theorem lt_irr (x : List Nat) : ¬ x < x := List.lt_irrefl x
theorem lt_tr {x y z : List Nat} (h1 : x < y) (h2 : y < z) : x < z := List.lt_trans h1 h2
theorem nlt_tr {x y z : List Nat} (h1 : ¬ y < x) (h2 : ¬ z < y) : ¬ z < x := by
  have := List.le_trans (List.not_lt.mp h1) (List.not_lt.mp h2)
  exact List.not_lt.mpr this
theorem nlt_anti {x y : List Nat} (h1 : ¬ y < x) (h2 : ¬ x < y) : x = y := List.le_antisymm (List.not_lt.mp h1) (List.not_lt.mp h2)
theorem nlt_cons {x : Nat} {s t : List Nat} (h : ¬ s < t) : ¬ (x :: s) < (x :: t) := fun z => by
  rw [List.cons_lt_cons_iff] at z
  rcases z with z | z
  · exact Nat.lt_irrefl _ z
  · exact h z.2
theorem leP_refl (x : List Nat) : leP x x := .inr ⟨rfl, lt_irr x⟩
theorem leW_refl (x : List Nat) : leW x x := .inr ⟨rfl, lt_irr x⟩
theorem leP_tr {x y z : List Nat} (a : leP x y) (b : leP y z) : leP x z := by
  rcases a with a | ⟨a, a'⟩ <;> rcases b with b | ⟨b, b'⟩
  · exact .inl (by omega)
  · exact .inl (by omega)
  · exact .inl (by omega)
  · exact .inr ⟨by omega, nlt_tr a' b'⟩
theorem leW_tr {x y z : List Nat} (a : leW x y) (b : leW y z) : leW x z := by
  rcases a with a | ⟨a, a'⟩ <;> rcases b with b | ⟨b, b'⟩
  · exact .inl (by omega)
  · exact .inl (by omega)
  · exact .inl (by omega)
  · exact .inr ⟨by omega, nlt_tr a' b'⟩
theorem leP_anti {x y : List Nat} (a : leP x y) (b : leP y x) : x = y := by
  rcases a with a | ⟨a, a'⟩ <;> rcases b with b | ⟨b, b'⟩
  · omega
  · omega
  · omega
  · exact nlt_anti a' b'
theorem leW_anti {x y : List Nat} (a : leW x y) (b : leW y x) : x = y := by
  rcases a with a | ⟨a, a'⟩ <;> rcases b with b | ⟨b, b'⟩
  · omega
  · omega
  · omega
  · exact nlt_anti a' b'
theorem leP_cons {c : Nat} {x y : List Nat} (a : leP x y) : leP (c :: x) (c :: y) := by
  rcases a with a | ⟨a, a'⟩
  · exact .inl (by simp; exact a)
  · exact .inr ⟨by simp; exact a, nlt_cons a'⟩
theorem leW_cons {c : Nat} {x y : List Nat} (a : leW x y) : leW (c :: x) (c :: y) := by
  rcases a with a | ⟨a, a'⟩
  · exact .inl (by simp; exact a)
  · exact .inr ⟨by simp; exact a, nlt_cons a'⟩
theorem leW_len {x y : List Nat} (a : leW x y) : x.length ≤ y.length := by
  rcases a with a | ⟨a, a'⟩ <;> omega
theorem leP_len {x y : List Nat} (a : leP x y) : y.length ≤ x.length := by
  rcases a with a | ⟨a, a'⟩ <;> omega
/-- the best of a list -/
def BestP (x : List Nat) (l : List (List Nat)) : Prop := x ∈ l ∧ ∀ y ∈ l, leP x y
def BestW (x : List Nat) (l : List (List Nat)) : Prop := x ∈ l ∧ ∀ y ∈ l, leW x y
theorem BestP.eq {x y : List Nat} {l : List (List Nat)} (a : BestP x l) (b : BestP y l) : x = y := leP_anti (a.2 y b.1) (b.2 x a.1)
theorem BestW.eq {x y : List Nat} {l : List (List Nat)} (a : BestW x l) (b : BestW y l) : x = y := leW_anti (a.2 y b.1) (b.2 x a.1)
/-- the longest common part, of those the first -/
structure CP (a b t : List Nat) : Prop where
  l : t.Sublist a
  r : t.Sublist b
  m : ∀ s : List Nat, s.Sublist a → s.Sublist b → leP t s
/-- the shortest common whole, of those the first -/
structure CW (a b t : List Nat) : Prop where
  l : a.Sublist t
  r : b.Sublist t
  m : ∀ s : List Nat, a.Sublist s → b.Sublist s → leW t s
theorem CP.eq {a b s t : List Nat} (x : CP a b s) (y : CP a b t) : s = t := leP_anti (x.m t y.l y.r) (y.m s x.l x.r)
theorem CW.eq {a b s t : List Nat} (x : CW a b s) (y : CW a b t) : s = t := leW_anti (x.m t y.l y.r) (y.m s x.l x.r)
theorem CP.sym {a b t : List Nat} (x : CP a b t) : CP b a t := ⟨x.r, x.l, fun s h1 h2 => x.m s h2 h1⟩
theorem CW.sym {a b t : List Nat} (x : CW a b t) : CW b a t := ⟨x.r, x.l, fun s h1 h2 => x.m s h2 h1⟩
theorem CP.sub {a b : List Nat} (h : a.Sublist b) : CP a b a := ⟨List.Sublist.refl a, h, fun s h1 _ => by
  by_cases e : s.length = a.length
  · rw [h1.eq_of_length e]; exact leP_refl a
  · exact .inl (Nat.lt_of_le_of_ne h1.length_le e)⟩
theorem CW.sub {a b : List Nat} (h : a.Sublist b) : CW a b b := ⟨h, List.Sublist.refl b, fun s _ h1 => by
  by_cases e : b.length = s.length
  · rw [← h1.eq_of_length e]; exact leW_refl b
  · exact .inl (Nat.lt_of_le_of_ne h1.length_le e)⟩
theorem CP.nil (b : List Nat) : CP [] b [] := .sub (List.nil_sublist b)
theorem CW.nil (b : List Nat) : CW [] b b := .sub (List.nil_sublist b)
theorem CP.ne {x y : Nat} {a b t1 t2 r : List Nat} (h1 : CP (x :: a) b t1) (h2 : CP a (y :: b) t2) (n : x ≠ y) (hr : BestP r [t1, t2]) : CP (x :: a) (y :: b) r := by
  have hc : r.Sublist (x :: a) ∧ r.Sublist (y :: b) := by
    have hm := hr.1
    simp only [List.mem_cons, List.not_mem_nil, or_false] at hm
    rcases hm with rfl | rfl
    · exact ⟨h1.l, h1.r.cons y⟩
    · exact ⟨h2.l.cons x, h2.r⟩
  refine ⟨hc.1, hc.2, fun s hs1 hs2 => ?_⟩
  cases hs1 with
  | cons _ k => exact leP_tr (hr.2 t2 (by simp)) (h2.m s k hs2)
  | cons_cons _ k =>
    cases hs2 with
    | cons _ k2 => exact leP_tr (hr.2 t1 (by simp)) (h1.m _ (k.cons_cons x) k2)
    | cons_cons _ k2 => exact absurd rfl n
theorem CP.step {x : Nat} {a b t1 t2 t3 r : List Nat} (h1 : CP (x :: a) b t1) (h2 : CP a (x :: b) t2) (h3 : CP a b t3) (hr : BestP r [t1, t2, x :: t3]) : CP (x :: a) (x :: b) r := by
  have hc : r.Sublist (x :: a) ∧ r.Sublist (x :: b) := by
    have hm := hr.1
    simp only [List.mem_cons, List.not_mem_nil, or_false] at hm
    rcases hm with rfl | rfl | rfl
    · exact ⟨h1.l, h1.r.cons x⟩
    · exact ⟨h2.l.cons x, h2.r⟩
    · exact ⟨h3.l.cons_cons x, h3.r.cons_cons x⟩
  refine ⟨hc.1, hc.2, fun s hs1 hs2 => ?_⟩
  cases hs1 with
  | cons _ k => exact leP_tr (hr.2 t2 (by simp)) (h2.m s k hs2)
  | cons_cons _ k =>
    cases hs2 with
    | cons _ k2 => exact leP_tr (hr.2 t1 (by simp)) (h1.m _ (k.cons_cons x) k2)
    | cons_cons _ k2 => exact leP_tr (hr.2 (x :: t3) (by simp)) (leP_cons (h3.m _ k k2))
theorem tail_sub {x : Nat} {a s : List Nat} (h : (x :: a).Sublist s) : a.Sublist s := (List.sublist_cons_self x a).trans h
theorem CW.step {x : Nat} {a b t : List Nat} (h : CW a b t) : CW (x :: a) (x :: b) (x :: t) := by
  refine ⟨h.l.cons_cons x, h.r.cons_cons x, fun s => ?_⟩
  induction s with
  | nil => intro k _; cases k
  | cons c s ih =>
    intro k1 k2
    by_cases e : c = x
    · subst e
      exact leW_cons (h.m s (List.cons_sublist_cons.mp k1) (List.cons_sublist_cons.mp k2))
    · have j1 : (x :: a).Sublist s := by
        cases k1 with
        | cons _ k => exact k
        | cons_cons _ k => exact absurd rfl e
      have j2 : (x :: b).Sublist s := by
        cases k2 with
        | cons _ k => exact k
        | cons_cons _ k => exact absurd rfl e
      have := leW_len (ih j1 j2)
      exact .inl (by simp at this ⊢; omega)
theorem CW.ne {x y : Nat} {a b t1 t2 r : List Nat} (h1 : CW a (y :: b) t1) (h2 : CW (x :: a) b t2) (n : x ≠ y) (hr : BestW r [x :: t1, y :: t2]) : CW (x :: a) (y :: b) r := by
  have hc : (x :: a).Sublist r ∧ (y :: b).Sublist r := by
    have hm := hr.1
    simp only [List.mem_cons, List.not_mem_nil, or_false] at hm
    rcases hm with rfl | rfl
    · exact ⟨h1.l.cons_cons x, h1.r.cons x⟩
    · exact ⟨h2.l.cons y, h2.r.cons_cons y⟩
  refine ⟨hc.1, hc.2, fun s => ?_⟩
  induction s with
  | nil => intro k _; cases k
  | cons c s ih =>
    intro k1 k2
    by_cases e : c = x
    · subst e
      have j2 : (y :: b).Sublist s := by
        cases k2 with
        | cons _ k => exact k
        | cons_cons _ k => exact absurd rfl n
      exact leW_tr (hr.2 _ (by simp)) (leW_cons (h1.m s (List.cons_sublist_cons.mp k1) j2))
    · have j1 : (x :: a).Sublist s := by
        cases k1 with
        | cons _ k => exact k
        | cons_cons _ k => exact absurd rfl e
      by_cases e2 : c = y
      · subst e2
        exact leW_tr (hr.2 _ (by simp)) (leW_cons (h2.m s j1 (List.cons_sublist_cons.mp k2)))
      · have j2 : (y :: b).Sublist s := by
          cases k2 with
          | cons _ k => exact k
          | cons_cons _ k => exact absurd rfl e2
        have := leW_len (ih j1 j2)
        exact .inl (by simp at this ⊢; omega)
/-! ### their lengths -/
theorem exW {p a : List Nat} (h : p.Sublist a) : ∀ b : List Nat, p.Sublist b → ∃ w : List Nat, a.Sublist w ∧ b.Sublist w ∧ w.length + p.length = a.length + b.length := by
  induction h with
  | slnil => exact fun b _ => ⟨b, List.nil_sublist b, List.Sublist.refl b, by simp⟩
  | cons x _ ih =>
    intro b hb
    obtain ⟨w, h1, h2, h3⟩ := ih b hb
    exact ⟨x :: w, h1.cons_cons x, h2.cons x, by simp; omega⟩
  | @cons_cons p' a' x _ ih =>
    intro b
    induction b with
    | nil => intro k; cases k
    | cons y b ihb =>
      intro hb
      cases hb with
      | cons _ k =>
        obtain ⟨w, h1, h2, h3⟩ := ihb k
        exact ⟨y :: w, h1.cons y, h2.cons_cons y, by simp at h3 ⊢; omega⟩
      | cons_cons _ k =>
        obtain ⟨w, h1, h2, h3⟩ := ih b k
        exact ⟨x :: w, h1.cons_cons x, h2.cons_cons x, by simp; omega⟩
theorem exP : ∀ (w a b : List Nat), a.Sublist w → b.Sublist w → ∃ p : List Nat, p.Sublist a ∧ p.Sublist b ∧ a.length + b.length ≤ p.length + w.length
  | [], a, b, ha, hb => by
    rw [List.sublist_nil.mp ha, List.sublist_nil.mp hb]
    exact ⟨[], List.nil_sublist _, List.nil_sublist _, by simp⟩
  | c :: w, a, b, ha, hb => by
    cases ha with
    | cons _ ka =>
      cases hb with
      | cons _ kb =>
        obtain ⟨p, h1, h2, h3⟩ := exP w a b ka kb
        exact ⟨p, h1, h2, by simp; omega⟩
      | cons_cons _ kb =>
        obtain ⟨p, h1, h2, h3⟩ := exP w a _ ka kb
        exact ⟨p, h1, h2.cons c, by simp; omega⟩
    | cons_cons _ ka =>
      cases hb with
      | cons _ kb =>
        obtain ⟨p, h1, h2, h3⟩ := exP w _ b ka kb
        exact ⟨p, h1.cons c, h2, by simp; omega⟩
      | cons_cons _ kb =>
        obtain ⟨p, h1, h2, h3⟩ := exP w _ _ ka kb
        exact ⟨c :: p, h1.cons_cons c, h2.cons_cons c, by simp; omega⟩
theorem len_sum {a b p w : List Nat} (hp : CP a b p) (hw : CW a b w) : p.length + w.length = a.length + b.length := by
  obtain ⟨w', h1, h2, h3⟩ := exW hp.l b hp.r
  obtain ⟨p', k1, k2, k3⟩ := exP w a b hw.l hw.r
  have e1 := leW_len (hw.m w' h1 h2)
  have e2 := leP_len (hp.m p' k1 k2)
  omega
/-! ### a text of one letter -/
theorem CP.rep {c n : Nat} {b : List Nat} (h : b.count c ≤ n) : CP (List.replicate n c) b (List.replicate (b.count c) c) := by
  refine ⟨List.replicate_sublist_replicate _ |>.mpr h, List.replicate_sublist_iff.mpr (Nat.le_refl _), fun s h1 h2 => ?_⟩
  obtain ⟨j, hj, rfl⟩ := List.sublist_replicate_iff.mp h1
  have hj2 := List.replicate_sublist_iff.mp h2
  by_cases e : j = b.count c
  · rw [e]; exact leP_refl _
  · exact .inl (by simp; omega)
end M13
namespace Lw
open PySem PySem.Spec PyProof.Rows L2 L3
def topS (i : Nat) : Stmt := PySem.Challenge.pw_missedparts_k13_whole_common_parts_and_w.main.body.getD i (.Pass ⟨0, 0, 0, 0⟩)
abbrev s_is_text : Stmt := topS 7
abbrev s_text_key : Stmt := topS 8
abbrev s_want_few : Stmt := topS 9
abbrev s_want_texts : Stmt := topS 12
abbrev s_is_part_of : Stmt := topS 13
abbrev s_is_part : Stmt := topS 14
abbrev s_first_longest : Stmt := topS 15
abbrev s_common_part : Stmt := topS 16
abbrev s_common_whole : Stmt := topS 17
abbrev s_law_pot : Stmt := topS 19
abbrev s_law_draw : Stmt := topS 20
abbrev s_law_pick : Stmt := topS 21
abbrev s_law_text : Stmt := topS 22
abbrev s_law_parts : Stmt := topS 23
abbrev s_law_common : Stmt := topS 24
abbrev s_law_best : Stmt := topS 25
abbrev s_law_part_table : Stmt := topS 26
abbrev s_law_whole_table : Stmt := topS 27
abbrev s_law_bent : Stmt := topS 28
abbrev s_law_told_right : Stmt := topS 29
abbrev s_law_shortest_right : Stmt := topS 30
abbrev s_law_small_right : Stmt := topS 31
abbrev s_law_long_right : Stmt := topS 32
abbrev s_law_right : Stmt := topS 33
abbrev s_law : Stmt := topS 34
theorem sc_is_text : FnScope ["value", "sign"] ["value"] (defScope s_is_text) := ⟨rfl, rfl, rfl, by decide +kernel, rfl, by decide +kernel, by decide +kernel⟩
theorem sc_text_key : FnScope ["text"] ["text"] (defScope s_text_key) := ⟨rfl, rfl, rfl, by decide +kernel, rfl, by decide +kernel, by decide +kernel⟩
theorem sc_want_few : FnScope ["what", "many", "limit"] ["what", "many", "limit"] (defScope s_want_few) := ⟨rfl, rfl, rfl, by decide +kernel, rfl, by decide +kernel, by decide +kernel⟩
theorem sc_want_texts : FnScope ["texts", "text"] ["texts"] (defScope s_want_texts) := ⟨rfl, rfl, rfl, by decide +kernel, rfl, by decide +kernel, by decide +kernel⟩
theorem sc_is_part_of : FnScope ["text", "whole", "at", "letter"] ["text", "whole"] (defScope s_is_part_of) := ⟨rfl, rfl, rfl, by decide +kernel, rfl, by decide +kernel, by decide +kernel⟩
theorem sc_is_part : FnScope ["text", "whole"] ["text", "whole"] (defScope s_is_part) := ⟨rfl, rfl, rfl, by decide +kernel, rfl, by decide +kernel, by decide +kernel⟩
theorem sc_first_longest : FnScope ["texts", "most", "text"] ["texts"] (defScope s_first_longest) := ⟨rfl, rfl, rfl, by decide +kernel, rfl, by decide +kernel, by decide +kernel⟩
theorem sc_common_part : FnScope ["one", "other", "below", "place", "at", "row", "some"] ["one", "other"] (defScope s_common_part) := ⟨rfl, rfl, rfl, by decide +kernel, rfl, by decide +kernel, by decide +kernel⟩
theorem sc_common_whole : FnScope ["one", "other", "below", "place", "at", "row", "text"] ["one", "other"] (defScope s_common_whole) := ⟨rfl, rfl, rfl, by decide +kernel, rfl, by decide +kernel, by decide +kernel⟩
theorem sc_law_pot : FnScope ["_law_script", "_law_k", "_law_cell"] ["_law_script", "_law_k"] (defScope s_law_pot) := ⟨rfl, rfl, rfl, by decide +kernel, rfl, by decide +kernel, by decide +kernel⟩
theorem sc_law_draw : FnScope ["_law_pot_here", "_law_sides", "_law_digit"] ["_law_pot_here", "_law_sides"] (defScope s_law_draw) := ⟨rfl, rfl, rfl, by decide +kernel, rfl, by decide +kernel, by decide +kernel⟩
theorem sc_law_pick : FnScope ["_law_pot_here", "_law_some"] ["_law_pot_here", "_law_some"] (defScope s_law_pick) := ⟨rfl, rfl, rfl, by decide +kernel, rfl, by decide +kernel, by decide +kernel⟩
theorem sc_law_text : FnScope ["_law_pot_here", "_law_signs", "_law_most", "_law_turn"] ["_law_pot_here", "_law_signs", "_law_most"] (defScope s_law_text) := ⟨rfl, rfl, rfl, by decide +kernel, rfl, by decide +kernel, by decide +kernel⟩
theorem sc_law_parts : FnScope ["_law_text_here", "_law_found", "_law_sign", "_law_one"] ["_law_text_here"] (defScope s_law_parts) := ⟨rfl, rfl, rfl, by decide +kernel, rfl, by decide +kernel, by decide +kernel⟩
theorem sc_law_common : FnScope ["_law_one", "_law_other", "_law_yours", "_law_text_here"] ["_law_one", "_law_other"] (defScope s_law_common) := ⟨rfl, rfl, rfl, by decide +kernel, rfl, by decide +kernel, by decide +kernel⟩
theorem sc_law_best : FnScope ["_law_some", "_law_way", "_law_best_here", "_law_text_here"] ["_law_some", "_law_way"] (defScope s_law_best) := ⟨rfl, rfl, rfl, by decide +kernel, rfl, by decide +kernel, by decide +kernel⟩
theorem sc_law_part_table : FnScope ["_law_one", "_law_other", "_law_below", "_law_sign", "_law_row", "_law_at", "_law_some"] ["_law_one", "_law_other"] (defScope s_law_part_table) := ⟨rfl, rfl, rfl, by decide +kernel, rfl, by decide +kernel, by decide +kernel⟩
theorem sc_law_whole_table : FnScope ["_law_one", "_law_other", "_law_below", "_law_at", "_law_place", "_law_row", "_law_some"] ["_law_one", "_law_other"] (defScope s_law_whole_table) := ⟨rfl, rfl, rfl, by decide +kernel, rfl, by decide +kernel, by decide +kernel⟩
theorem sc_law_bent : FnScope ["_law_pot_here", "_law_signs", "_law_text_here", "_law_at", "_law_sign"] ["_law_pot_here", "_law_signs", "_law_text_here"] (defScope s_law_bent) := ⟨rfl, rfl, rfl, by decide +kernel, rfl, by decide +kernel, by decide +kernel⟩
theorem sc_law_told_right : FnScope ["_law_one", "_law_other", "_law_part", "_law_whole", "_law_turn", "_law_told", "_law_text_here"] ["_law_one", "_law_other"] (defScope s_law_told_right) := ⟨rfl, rfl, rfl, by decide +kernel, rfl, by decide +kernel, by decide +kernel⟩
theorem sc_law_shortest_right : FnScope ["_law_one", "_law_other", "_law_whole", "_law_less", "_law_at", "_law_text_here"] ["_law_one", "_law_other", "_law_whole"] (defScope s_law_shortest_right) := ⟨rfl, rfl, rfl, by decide +kernel, rfl, by decide +kernel, by decide +kernel⟩
theorem sc_law_small_right : FnScope ["_law_pot_here", "_law_signs", "_law_one", "_law_other"] ["_law_pot_here", "_law_signs"] (defScope s_law_small_right) := ⟨rfl, rfl, rfl, by decide +kernel, rfl, by decide +kernel, by decide +kernel⟩
theorem sc_law_long_right : FnScope ["_law_pot_here", "_law_signs", "_law_one", "_law_other", "_law_full", "_law_wide", "_law_many"] ["_law_pot_here", "_law_signs"] (defScope s_law_long_right) := ⟨rfl, rfl, rfl, by decide +kernel, rfl, by decide +kernel, by decide +kernel⟩
theorem sc_law_right : FnScope ["_law_pot_here", "_law_signs", "_law_turn"] ["_law_pot_here"] (defScope s_law_right) := ⟨rfl, rfl, rfl, by decide +kernel, rfl, by decide +kernel, by decide +kernel⟩
theorem sc_law : FnScope ["_law_script", "_law_k"] ["_law_script"] (defScope s_law) := ⟨rfl, rfl, rfl, by decide +kernel, rfl, by decide +kernel, by decide +kernel⟩
/-- what the top has left of a def -/
structure Dn (K : PySem.W.Frag) (mg : Str → Option Value) (x : Str) (st : Stmt) (ps : List Str) (f : Addr) (fd : FuncData) : Prop where
  F : Fun K x x st f fd
  b : L2.Binds K fd ps []
  g : mg x = some (.ref f)
structure All (K : PySem.W.Frag) (mg : Str → Option Value) where
  f_is_text : Addr
  d_is_text : FuncData
  is_text : Dn K mg "is_text" s_is_text ["value"] f_is_text d_is_text
  f_text_key : Addr
  d_text_key : FuncData
  text_key : Dn K mg "text_key" s_text_key ["text"] f_text_key d_text_key
  f_want_few : Addr
  d_want_few : FuncData
  want_few : Dn K mg "want_few" s_want_few ["what", "many", "limit"] f_want_few d_want_few
  f_want_texts : Addr
  d_want_texts : FuncData
  want_texts : Dn K mg "want_texts" s_want_texts ["texts"] f_want_texts d_want_texts
  f_is_part_of : Addr
  d_is_part_of : FuncData
  is_part_of : Dn K mg "is_part_of" s_is_part_of ["text", "whole"] f_is_part_of d_is_part_of
  f_is_part : Addr
  d_is_part : FuncData
  is_part : Dn K mg "is_part" s_is_part ["text", "whole"] f_is_part d_is_part
  f_first_longest : Addr
  d_first_longest : FuncData
  first_longest : Dn K mg "first_longest" s_first_longest ["texts"] f_first_longest d_first_longest
  f_common_part : Addr
  d_common_part : FuncData
  common_part : Dn K mg "common_part" s_common_part ["one", "other"] f_common_part d_common_part
  f_common_whole : Addr
  d_common_whole : FuncData
  common_whole : Dn K mg "common_whole" s_common_whole ["one", "other"] f_common_whole d_common_whole
  f_law_pot : Addr
  d_law_pot : FuncData
  law_pot : Dn K mg "_law_pot" s_law_pot ["_law_script", "_law_k"] f_law_pot d_law_pot
  f_law_draw : Addr
  d_law_draw : FuncData
  law_draw : Dn K mg "_law_draw" s_law_draw ["_law_pot_here", "_law_sides"] f_law_draw d_law_draw
  f_law_pick : Addr
  d_law_pick : FuncData
  law_pick : Dn K mg "_law_pick" s_law_pick ["_law_pot_here", "_law_some"] f_law_pick d_law_pick
  f_law_text : Addr
  d_law_text : FuncData
  law_text : Dn K mg "_law_text" s_law_text ["_law_pot_here", "_law_signs", "_law_most"] f_law_text d_law_text
  f_law_parts : Addr
  d_law_parts : FuncData
  law_parts : Dn K mg "_law_parts" s_law_parts ["_law_text_here"] f_law_parts d_law_parts
  f_law_common : Addr
  d_law_common : FuncData
  law_common : Dn K mg "_law_common" s_law_common ["_law_one", "_law_other"] f_law_common d_law_common
  f_law_best : Addr
  d_law_best : FuncData
  law_best : Dn K mg "_law_best" s_law_best ["_law_some", "_law_way"] f_law_best d_law_best
  f_law_part_table : Addr
  d_law_part_table : FuncData
  law_part_table : Dn K mg "_law_part_table" s_law_part_table ["_law_one", "_law_other"] f_law_part_table d_law_part_table
  f_law_whole_table : Addr
  d_law_whole_table : FuncData
  law_whole_table : Dn K mg "_law_whole_table" s_law_whole_table ["_law_one", "_law_other"] f_law_whole_table d_law_whole_table
  f_law_bent : Addr
  d_law_bent : FuncData
  law_bent : Dn K mg "_law_bent" s_law_bent ["_law_pot_here", "_law_signs", "_law_text_here"] f_law_bent d_law_bent
  f_law_told_right : Addr
  d_law_told_right : FuncData
  law_told_right : Dn K mg "_law_told_right" s_law_told_right ["_law_one", "_law_other"] f_law_told_right d_law_told_right
  f_law_shortest_right : Addr
  d_law_shortest_right : FuncData
  law_shortest_right : Dn K mg "_law_shortest_right" s_law_shortest_right ["_law_one", "_law_other", "_law_whole"] f_law_shortest_right d_law_shortest_right
  f_law_small_right : Addr
  d_law_small_right : FuncData
  law_small_right : Dn K mg "_law_small_right" s_law_small_right ["_law_pot_here", "_law_signs"] f_law_small_right d_law_small_right
  f_law_long_right : Addr
  d_law_long_right : FuncData
  law_long_right : Dn K mg "_law_long_right" s_law_long_right ["_law_pot_here", "_law_signs"] f_law_long_right d_law_long_right
  f_law_right : Addr
  d_law_right : FuncData
  law_right : Dn K mg "_law_right" s_law_right ["_law_pot_here"] f_law_right d_law_right
  f_law : Addr
  d_law : FuncData
  law : Dn K mg "law" s_law ["_law_script"] f_law d_law
  b_abs : mg "abs" = none
  b_all : mg "all" = none
  b_any : mg "any" = none
  b_divmod : mg "divmod" = none
  b_int : mg "int" = none
  b_isinstance : mg "isinstance" = none
  b_len : mg "len" = none
  b_list : mg "list" = none
  b_max : mg "max" = none
  b_min : mg "min" = none
  b_range : mg "range" = none
  b_repr : mg "repr" = none
  b_sorted : mg "sorted" = none
  b_str : mg "str" = none
  c_SMALL : ∃ t, mg "SMALL" = some (.str "abcdefghijklmnopqrstuvwxyz" t)
  c_MOST_COMMON : ∃ t, mg "MOST_COMMON" = some (.int 60 t)
end Lw
namespace Lw
open PySem PySem.Spec PyProof.Rows L2 L3
section
variable {P : Program} {w : World} {K : PySem.W.Frag} {mg : Str → Option Value} {base : Heap}
/-- a text of small letters, not too long -/
def Small (l : List Nat) : Prop := (∀ c ∈ l, 97 ≤ c ∧ c ≤ 122) ∧ l.length ≤ 1000
theorem small_codes : (("abcdefghijklmnopqrstuvwxyz" : Str)).cps.toList = (List.range 26).map (· + 97) := by decide +kernel
theorem small_mem {c : Nat} (h : 97 ≤ c ∧ c ≤ 122) : c ∈ (("abcdefghijklmnopqrstuvwxyz" : Str)).cps.toList := by
  rw [small_codes]
  exact List.mem_map.mpr ⟨c - 97, List.mem_range.mpr (by omega), by omega⟩
/-! ### is_text -/
def spIsText : Sp := fun vs H Q _ => ∃ l, vs = [tx l] ∧ Small l ∧ ∀ H', Same H H' → Q (.bl true) H'
theorem ok_is_text (T : All K mg) : FnOk P w K mg base CX0 1 T.f_is_text T.d_is_text ["value"] spIsText := by
  refine T.is_text.F.ok sc_is_text (fun vs H Q E h => ?_) (fun cdv A outer s H vs Q E hr h => ?_)
  · obtain ⟨l, rfl, _⟩ := h
    rfl
  · obtain ⟨l, rfl, hl, q⟩ := h
    obtain ⟨ts, hS⟩ := T.c_SMALL
    refine ⟨_, pss_one (ps_ret (pe_and (pe_callB call_isi (by rfl) T.b_isinstance boot_isinstance (pa_cons (pv 0) (pa_cons (pe_bltn (v := .ty "str") (by rfl) T.b_str (by decide +kernel) rfl) pa_nil)))
      (pe_one (pe_callB (cr_all rfl) (by rfl) T.b_all boot_all (pa_cons (pe_lc (own := [("sign", 1)]) (g := gName 1) (tt := tYes) rfl sc_is_text.nd (pi_str (pv 0)) (blkOk_by (own := [("sign", 1)]) (N := ["value", "sign"]) (sc := defScope s_is_text) (by decide +kernel))
        (fun _ _ _ _ _ => pg_name (i := 1) sc_is_text.nd rfl (Or.inl rfl)) (fun _ _ _ _ _ => pts_nil) (fun _ _ _ _ _ => pe_cmpR op_in_sign (pv 1) (pe_glob (v := .str "abcdefghijklmnopqrstuvwxyz") rfl hS ⟨_, rfl⟩) (by rfl))) pa_nil))))), ?_⟩
    refine ⟨tx l, rfl, tx l, .ty "str", .type "str", .type "str", true, rfl, .ty _, .base (.str _), kit_ty (by decide +kernel), true, rfl, iteT ?_⟩
    refine ⟨tx l, rfl, tS l, rfl, fun D nD => ?_⟩
    have hsz : (tS l).cps.size = l.length := tS_len l
    refine lc_gen walk_str (Same H) (fun i acc => acc = List.replicate i (.bl true)) ?_ (fun i acc e => by rw [e]; simp) rfl (same_upd nD) (fun _ _ h => same_up h nD) (fun _ _ => trivial) (fun i x H2 H3 acc C N hi r hD ha y c n => ?_) (fun H2 xs r hD ha => ?_)
    · rw [hsz]
      have := hl.2
      rw [sizeLine_eq]
      omega
    · obtain ⟨rfl, ch, hc, rfl⟩ := y
      refine ⟨rfl, yes_te ?_⟩
      refine ⟨_, rfl, ch, _, rfl, rfl, ?_⟩
      have hm : ch ∈ l := by
        have e : l[i]? = some ch := by simpa [tS] using hc
        exact List.mem_of_getElem? e
      rw [decide_eq_true (small_mem (hl.1 ch hm))]
      exact c _ _ r hD (by rw [ha, List.replicate_succ'])
    · refine ⟨D, List.replicate (tS l).cps.size true, rfl, .inl (.inl ?_), ?_⟩
      · rw [hD, ha]
        simp
      · have e : (List.replicate (tS l).cps.size true).all id = true := by simp
        rw [e]
        exact q _ r
theorem small_len {l : List Nat} (h : Small l) : l.length ≤ sizeLine := by
  have := h.2
  rw [sizeLine_eq]
  omega
/-! ### want_texts -/
def spWantTexts (K : PySem.W.Frag) : Sp := fun vs H Q _ => ∃ (a : Addr) (ls : List (List Nat)), vs = [.ref a] ∧ SqL K H a (ls.map tx) ∧ (∀ l ∈ ls, Small l) ∧ ∀ H', Same H H' → Q .non H'
theorem ok_want_texts (T : All K mg) : FnOk P w K mg base CX0 2 T.f_want_texts T.d_want_texts ["texts"] (spWantTexts K) := by
  refine T.want_texts.F.ok sc_want_texts (fun vs H Q E h => ?_) (fun cdv A outer s H vs Q E hr h => ?_)
  · obtain ⟨a, ls, rfl, _⟩ := h
    rfl
  · obtain ⟨a, ls, rfl, hS, hl, q⟩ := h
    refine ⟨_, pss_one (ps_for PassesOwn.never rfl (pi_list (pv 0)) (pg_name (i := 1) sc_want_texts.nd rfl (.inl rfl))
      (pss_one (ps_if (pt_not (pt_val (pe_call (ok_is_text T) hr (by rfl) T.is_text.g T.is_text.F.kp T.is_text.b .nil pass0 (pa_cons (pv 1) pa_nil)))) (pss_one ps_never) pss_nil))), ?_⟩
    refine ⟨.ref a, rfl, a, rfl, ⟨_, hS⟩, for_list (xs := ls.map tx) (fun i σ H' => ∃ y, σ = [some (.ref a), y] ∧ Same H H') ⟨none, rfl, Same.refl H⟩ (fun i σ H' _ p => p.elim fun y p => p.2.seq hS) (fun i x σ H' hx p => ?_) (fun σ H' p => ?_)⟩
    · obtain ⟨y, rfl, sm⟩ := p
      rw [List.getElem?_map] at hx
      obtain ⟨l, hl1, rfl⟩ := Option.map_eq_some_iff.mp hx
      refine ⟨_, rfl, l, rfl, hl l (List.mem_of_getElem? hl1), fun H2 sm2 => ?_⟩
      exact ⟨true, rfl, iteF ⟨_, rfl, sm.trans sm2⟩⟩
    · obtain ⟨y, rfl, sm⟩ := p
      exact q _ sm
/-! ### is_part_of -/
theorem come_take (t w : List Nat) (i c : Nat) (h : w[i]? = some c) : M11.come t (w.take (i + 1)) 0 = if t[M11.come t (w.take i) 0]? = some c then M11.come t (w.take i) 0 + 1 else M11.come t (w.take i) 0 := by
  unfold M11.come
  rw [List.take_add_one, h, List.foldl_append]
  rfl
def spPartOf : Sp := fun vs H Q _ => ∃ t w, vs = [tx t, tx w] ∧ t.length ≤ sizeLine ∧ w.length ≤ sizeLine ∧ ∀ H', Same H H' → Q (.bl (decide (t.Sublist w))) H'
theorem ok_is_part_of (T : All K mg) : FnOk P w K mg base CX0 1 T.f_is_part_of T.d_is_part_of ["text", "whole"] spPartOf := by
  refine T.is_part_of.F.ok sc_is_part_of (fun vs H Q E h => ?_) (fun cdv A outer s H vs Q E hr h => ?_)
  · obtain ⟨t, w, rfl, _⟩ := h
    rfl
  · obtain ⟨t, w, rfl, ht, hw, q⟩ := h
    refine ⟨_, pss_cons (ps_set (i := 2) sc_is_part_of.nd rfl (.inl rfl) pe_int)
      (pss_cons (ps_for PassesOwn.never rfl (pi_str (pv 1)) (pg_name (i := 3) sc_is_part_of.nd rfl (.inl rfl))
        (pss_one (ps_if (PW.pt (pw_and (pt_cmpR op_lt (pv 2) (pe_callB call_lenT (by rfl) T.b_len PySem.boot_len (pa_cons (pv 0) pa_nil)) (nomark _)) (pw_and1 (pt_cmpR op_eq (pe_ix ix_tx (pv 0) (pv 2) (fun _ _ => rfl)) (pv 3) (nomark _)))))
          (pss_one (ps_set (i := 2) sc_is_part_of.nd rfl (.inl rfl) (pe_op op_add (pv 2) pe_int))) pss_nil)))
      (pss_one (ps_ret (pe_cmpR op_eq (pv 2) (pe_callB call_lenT (by rfl) T.b_len PySem.boot_len (pa_cons (pv 0) pa_nil)) (nomark _))))), ?_⟩
    refine ⟨tx w, rfl, tS w, rfl, for_it walk_tx (fun i σ H' => ∃ y, σ = [some (tx t), some (tx w), some (.int (M11.come t (w.take i) 0 : Nat)), y] ∧ H' = H) ⟨none, rfl, rfl⟩ (fun _ _ _ _ _ => trivial) (fun i x σ H1 H2 hi p y => ?_) (fun σ H' p => ?_)⟩
    · obtain ⟨y0, rfl, rfl⟩ := p
      obtain ⟨rfl, c, hc, rfl⟩ := y
      have hstep := come_take t w i c hc
      have hle := M11.come_le t (w.take i) 0 (Nat.zero_le _)
      refine ⟨_, rfl, _, rfl, t, rfl, ht, _, _, rfl, rfl, _, rfl, ite2 (fun e => ?_) (fun e => ?_)⟩
      · have hlt : M11.come t (w.take i) 0 < t.length := by
          have := of_decide_eq_true e
          omega
        refine ⟨_, rfl, _, rfl, t, _, t[M11.come t (w.take i) 0], rfl, rfl, ht, List.getElem?_eq_getElem hlt, _, rfl, rfl, _, rfl, ite2 (fun e2 => ?_) (fun e2 => ?_)⟩
        · have ec : t[M11.come t (w.take i) 0] = c := by
            have := tx_inj (of_decide_eq_true e2)
            simpa using this
          refine ⟨_, rfl, _, _, rfl, rfl, some (tx [c]), ?_, rfl⟩
          rw [hstep, if_pos (by rw [List.getElem?_eq_getElem hlt, ec])]
          rfl
        · refine ⟨some (tx [c]), ?_, rfl⟩
          rw [hstep, if_neg (fun z => e2 ?_)]
          · rfl
          · rw [List.getElem?_eq_getElem hlt] at z
            rw [Option.some.inj z]
            exact decide_eq_true rfl
      · refine iteF ?_
        refine ⟨some (tx [c]), ?_, rfl⟩
        have hge : t.length ≤ M11.come t (w.take i) 0 := by
          have : ¬ ((M11.come t (w.take i) 0 : Int) < (t.length : Int)) := fun z => e (decide_eq_true z)
          omega
        rw [hstep, if_neg (by rw [List.getElem?_eq_none hge]; simp)]
        rfl
    · obtain ⟨y0, rfl, rfl⟩ := p
      refine ⟨_, rfl, _, rfl, t, rfl, ht, rfl, ?_⟩
      have hiff := M11.come_iff t w 0 (Nat.zero_le _)
      rw [List.drop_zero] at hiff
      rw [List.take_of_length_le (Nat.le_refl _)]
      have e : decide (V.int (M11.come t w 0 : Nat) = V.int (t.length : Int)) = decide (t.Sublist w) := by
        by_cases z : M11.come t w 0 = t.length
        · rw [decide_eq_true (hiff.mp z), z]
          exact decide_eq_true rfl
        · rw [decide_eq_false (fun y => z (hiff.mpr y))]
          exact decide_eq_false fun y => z (by have := V.int.inj y; omega)
      rw [e]
      exact q _ (Same.refl _)
/-! ### dicts of texts -/
abbrev tk (l : List Nat) : Key := Sum.inr (tS l)
theorem tk_inj {a b : List Nat} (h : tk a = tk b) : a = b := tS_inj (Sum.inr.inj h)
def kvsOf (ls : List (List Nat)) : List (Key × V) := ls.map fun l => (tk l, V.bl true)
theorem kvs_keys (ls : List (List Nat)) : (kvsOf ls).map (·.1) = ls.map fun l => Sum.inr (tS l) := by
  unfold kvsOf
  rw [List.map_map]
  rfl
theorem kvs_kV (ls : List (List Nat)) : ((kvsOf ls).map fun kv => kV kv.1) = ls.map tx := by
  unfold kvsOf
  rw [List.map_map]
  rfl
theorem kvs_put (ls : List (List Nat)) (k : List Nat) : putK (kvsOf ls) (tk k) (V.bl true) = kvsOf (M11.ins ls k) := by
  unfold putK M11.ins
  have hany : ((kvsOf ls).any fun kv => decide (kv.1 = tk k)) = decide (k ∈ ls) := by
    unfold kvsOf
    rw [List.any_map]
    by_cases h : k ∈ ls
    · rw [decide_eq_true h, List.any_eq_true]
      exact ⟨k, h, decide_eq_true rfl⟩
    · rw [decide_eq_false h, List.any_eq_false]
      exact fun x hx e => h (tk_inj (of_decide_eq_true e) ▸ hx)
  rw [hany]
  by_cases h : k ∈ ls
  · rw [if_pos (decide_eq_true h), if_pos h]
    unfold kvsOf
    rw [List.map_map]
    apply List.map_congr_left
    intro l _
    show (if tk l = tk k then (tk l, V.bl true) else (tk l, V.bl true)) = _
    split <;> rfl
  · rw [if_neg (fun e => h (of_decide_eq_true e)), if_neg h]
    unfold kvsOf
    rw [List.map_append]
    rfl
/-- the inner loop's dict behind j turns -/
def stepJ (ls : List (List Nat)) (c j : Nat) : List (List Nat) := (ls.take j).foldl (fun acc p => M11.ins acc (p ++ [c])) ls
theorem stepJ_zero (ls : List (List Nat)) (c : Nat) : stepJ ls c 0 = ls := rfl
theorem stepJ_succ {ls : List (List Nat)} {c j : Nat} {p : List Nat} (h : ls[j]? = some p) : stepJ ls c (j + 1) = M11.ins (stepJ ls c j) (p ++ [c]) := by
  unfold stepJ
  rw [List.take_add_one, h, List.foldl_append]
  rfl
theorem stepJ_all (ls : List (List Nat)) (c : Nat) : stepJ ls c ls.length = M11.stepP ls c := by
  unfold stepJ M11.stepP
  rw [List.take_of_length_le (Nat.le_refl _)]
theorem ins_len_le (ks : List (List Nat)) (k : List Nat) : (M11.ins ks k).length ≤ ks.length + 1 := by
  rw [M11.ins_len]
  split <;> omega
theorem foldIns_le (c : Nat) : ∀ (l acc : List (List Nat)), (l.foldl (fun acc p => M11.ins acc (p ++ [c])) acc).length ≤ acc.length + l.length
  | [], _ => Nat.le_refl _
  | p :: l, acc => by
    rw [List.foldl_cons]
    have h1 := foldIns_le c l (M11.ins acc (p ++ [c]))
    have h2 := ins_len_le acc (p ++ [c])
    rw [List.length_cons]
    omega
theorem stepJ_len (ls : List (List Nat)) (c j : Nat) : (stepJ ls c j).length ≤ 2 * ls.length := by
  unfold stepJ
  have h1 := foldIns_le c (ls.take j) ls
  have h2 : (ls.take j).length ≤ ls.length := by rw [List.length_take]; omega
  omega
theorem subs_take {t : List Nat} {i c : Nat} (h : t[i]? = some c) : M11.subs (t.take (i + 1)) = M11.stepP (M11.subs (t.take i)) c := by
  rw [List.take_add_one, h]
  exact M11.subs_snoc _ _
theorem subs_small {t : List Nat} (ht : t.length ≤ 10) (i : Nat) : (M11.subs (t.take i)).length ≤ 1024 := by
  have h1 := M11.subs_len_le (t.take i)
  have h2 : (t.take i).length ≤ 10 := by rw [List.length_take]; omega
  have h3 : 2 ^ (t.take i).length ≤ 2 ^ 10 := Nat.pow_le_pow_right (by decide) h2
  have h4 : 2 ^ 10 = 1024 := by decide
  omega
/-- by length, then by letters -/
def keyLen : KF := fun l => ((l.length : Int), l)
/-! ### is_part -/
def spIsPart : Sp := fun vs H Q _ => ∃ t w, vs = [tx t, tx w] ∧ Small t ∧ Small w ∧ ∀ H', Same H H' → Q (.bl (decide (t.Sublist w))) H'
theorem ok_is_part (T : All K mg) : FnOk P w K mg base CX0 3 T.f_is_part T.d_is_part ["text", "whole"] spIsPart := by
  refine T.is_part.F.ok sc_is_part (fun vs H Q E h => ?_) (fun cdv A outer s H vs Q E hr h => ?_)
  · obtain ⟨t, w, rfl, _⟩ := h
    rfl
  · obtain ⟨t, w, rfl, ht, hw, q⟩ := h
    refine ⟨_, pss_cons (ps_expr (pe_call (ok_want_texts T) hr (by rfl) T.want_texts.g T.want_texts.F.kp T.want_texts.b .nil pass0 (pa_cons (pe_lst (pa_cons (pv 0) (pa_cons (pv 1) pa_nil))) pa_nil)))
      (pss_one (ps_ret (pe_call (ok_is_part_of T) (hr.mono (by decide)) (by rfl) T.is_part_of.g T.is_part_of.F.kp T.is_part_of.b .nil pass0 (pa_cons (pv 0) (pa_cons (pv 1) pa_nil))))), ?_⟩
    refine ⟨_, rfl, _, rfl, by show 2 ≤ sizeLine; decide, fun p np => ?_⟩
    refine ⟨p, [t, w], rfl, .inl (.inl upd_same), ?_, fun H1 s1 => ?_⟩
    · intro l hl
      simp only [List.mem_cons, List.not_mem_nil, or_false] at hl
      rcases hl with rfl | rfl
      · exact ht
      · exact hw
    · refine ⟨_, rfl, _, rfl, t, w, rfl, small_len ht, small_len hw, fun H2 s2 => ?_⟩
      exact q _ (((same_upd np).trans s1).trans s2)
/-! ### want_few -/
def spWantFew : Sp := fun vs H Q _ => ∃ (x : V) (m n : Int), vs = [x, .int m, .int n] ∧ m ≤ n ∧ Q .non H
theorem ok_want_few (T : All K mg) : FnOk P w K mg base CX0 1 T.f_want_few T.d_want_few ["what", "many", "limit"] spWantFew := by
  refine T.want_few.F.ok sc_want_few (fun vs H Q E h => ?_) (fun cdv A outer s H vs Q E hr h => ?_)
  · obtain ⟨x, m, n, rfl, _⟩ := h
    rfl
  · obtain ⟨x, m, n, rfl, hmn, q⟩ := h
    refine ⟨_, pss_one (ps_if (pt_cmpR op_gt (pv 1) (pv 2) (nomark _)) (pss_one ps_never) pss_nil), ?_⟩
    refine ⟨_, rfl, _, rfl, m, n, rfl, rfl, _, rfl, ite2 (fun e => ?_) (fun e => q)⟩
    have := of_decide_eq_true e
    show False
    omega
/-! ### text_key -/
theorem ok_text_key (T : All K mg) : FnOk P w K mg base CX0 1 T.f_text_key T.d_text_key ["text"] (spKey keyLen) := by
  refine T.text_key.F.ok sc_text_key (fun vs H Q E h => ?_) (fun cdv A outer s H vs Q E hr h => ?_)
  · obtain ⟨l, rfl, _⟩ := h
    rfl
  · obtain ⟨l, rfl, hl, q⟩ := h
    refine ⟨_, pss_one (ps_ret (pe_tup (pa_cons (pe_callB call_lenT (by rfl) T.b_len PySem.boot_len (pa_cons (pv 0) pa_nil)) (pa_cons (pv 0) pa_nil)))), ?_⟩
    exact ⟨_, rfl, l, rfl, hl, _, rfl, by show 2 ≤ sizeLine; decide, fun p np => q _ p (same_upd np) upd_same⟩
theorem subs_short {t p : List Nat} {i : Nat} (h : p ∈ M11.subs (t.take i)) : p.length ≤ i := by
  have h1 := ((M11.mem_subs _ _).mp h).length_le
  rw [List.length_take] at h1
  omega
theorem merge1 : mergeK [] [(tk [], V.bl true)] = kvsOf (M11.subs ([] : List Nat)) := rfl
end
end Lw
namespace Lw
open PySem PySem.Spec PyProof.Rows L2 L3
section
variable {P : Program} {w : World} {K : PySem.W.Frag} {mg : Str → Option Value} {base : Heap}
/-- a pot: two numbers -/
def Pot (H : Hp) (a : Addr) : Prop := ∃ x y : Int, H a = some (.lst [.int x, .int y]) ∧ 0 ≤ x ∧ 0 ≤ y ∧ y < 4294967296
/-- all but a stays -/
def Off (a : Addr) (H H' : Hp) : Prop := ∀ b o, H b = some o → b ≠ a → H' b = some o
theorem Off.refl (a : Addr) (H : Hp) : Off a H H := fun _ _ e _ => e
theorem Off.trans {a : Addr} {H H1 H2 : Hp} (x : Off a H H1) (y : Off a H1 H2) : Off a H H2 := fun b o e n => y b o (x b o e n) n
theorem Off.of {a : Addr} {H H' : Hp} (s : Same H H') : Off a H H' := fun b o e _ => s b o e
theorem Off.up {a p : Addr} {H H' : Hp} {o : HO} (x : Off a H H') (h : H p = none) : Off a H (upd H' p o) := fun b u e n => by
  rw [upd_ne (ne_of_none e h)]
  exact x b u e n
theorem Off.at {a : Addr} {H H' : Hp} {o : HO} (x : Off a H H') : Off a H (upd H' a o) := fun b u e n => by
  rw [upd_ne n]
  exact x b u e n
theorem Pot.some {H : Hp} {a : Addr} (h : Pot H a) : H a ≠ none := fun e => by
  obtain ⟨x, y, h, _⟩ := h
  rw [e] at h
  cases h
theorem Off.free {a : Addr} {H H' : Hp} (x : Off a H H') {l : Addr} (h : H' l = none) (hp : Pot H' a) : H l = none := by
  cases q : H l with
  | none => rfl
  | some o =>
    by_cases e : l = a
    · subst e
      exact absurd h hp.some
    · rw [x l o q e] at h
      cases h
theorem Off.seq {K : PySem.W.Frag} {a l : Addr} {H H' : Hp} {xs : List V} (x : Off a H H') (n : l ≠ a) (h : SqL K H l xs) : SqL K H' l xs := by
  rcases h with (h | ⟨o, h⟩) | h
  · exact .inl (.inl (x _ _ h n))
  · exact .inl (.inr ⟨o, x _ _ h n⟩)
  · exact .inr h
/-! ### _law_pot -/
def spPot (K : PySem.W.Frag) : Sp := fun vs H Q _ => ∃ (a : Addr) (ns : List Int) (k : Nat), vs = [.ref a, .int (k : Int)] ∧ SqL K H a (ns.map V.int) ∧ k ≤ 10 ∧ ∀ H' p, Same H H' → H p = none → Pot H' p → Q (.ref p) H'
theorem pot_fin {H : Hp} {p : Addr} {z : Int} (x : Int) : Pot (upd H p (.lst [.int (if x > 0 then x else 0), .int (z % 2147483579 + 1)])) p := by
  refine ⟨_, _, upd_same, ?_, ?_, ?_⟩
  · split <;> omega
  · omega
  · omega
theorem ok_law_pot (T : All K mg) : FnOk P w K mg base CX0 1 T.f_law_pot T.d_law_pot ["_law_script", "_law_k"] (spPot K) := by
  refine T.law_pot.F.ok sc_law_pot (fun vs H Q E h => ?_) (fun cdv A outer s H vs Q E hr h => ?_)
  · obtain ⟨a, ns, k, rfl, _⟩ := h
    rfl
  · obtain ⟨a, ns, k, rfl, hS, hk, q⟩ := h
    refine ⟨_, pss_cons (ps_set (i := 2) sc_law_pot.nd rfl (.inl rfl) (pe_op op_add (pe_op op_mul pe_int (pv 1)) pe_int))
      (pss_cons (ps_if (pt_cmpR op_lt (pv 1) (pe_callB call_len_seq (by rfl) T.b_len PySem.boot_len (pa_cons (pv 0) pa_nil)) (nomark _))
        (pss_one (ps_set (i := 2) sc_law_pot.nd rfl (.inl rfl) (pe_callB call_abs (by rfl) T.b_abs PyProof.Rows.boot_abs (pa_cons (pe_ix ix_list (pv 0) (pv 1) (fun _ _ => rfl)) pa_nil)))) pss_nil)
      (pss_one (ps_ret (pe_lst (pa_cons (pe_callB (call_max2 rfl) (by rfl) T.b_max PyProof.Rows.boot_max (pa_cons pe_int (pa_cons (pe_op op_sub (pv 2) (pe_op op_pow pe_int pe_int)) pa_nil)))
        (pa_cons (pe_op op_add (pe_op op_mod (pe_callTy call_int1 (by rfl) T.b_int PyProof.Rows.boot_int (pa_cons (pe_op op_add (pe_op op_add (pe_op op_mul (pe_op op_mod (pe_callTy call_int1 (by rfl) T.b_int PyProof.Rows.boot_int (pa_cons (pv 2) pa_nil)) pe_int) pe_int) (pe_op op_mul pe_int (pv 1))) pe_int) pa_nil)) pe_int) pe_int) pa_nil)))))), ?_⟩
    refine ⟨_, rfl, _, _, rfl, rfl, .inl ⟨by decide, by decide⟩, _, _, rfl, rfl, ?_⟩
    refine ⟨_, rfl, _, rfl, a, ns.map V.int, rfl, .inl hS, _, _, rfl, rfl, _, rfl, ite2 (fun e => ?_) (fun e => ?_)⟩
    · have hlt : k < ns.length := by
        have := of_decide_eq_true e
        rw [List.length_map] at this
        omega
      refine ⟨_, rfl, _, rfl, a, _, _, .int ns[k], rfl, rfl, hS, atI_nat (by rw [List.getElem?_map, List.getElem?_eq_getElem hlt]; rfl), _, rfl, ?_⟩
      refine ⟨_, rfl, 10, 18, rfl, rfl, ⟨by decide, by decide, by decide⟩, _, _, rfl, rfl, _, _, rfl, ?_⟩
      refine ⟨_, rfl, .inl ⟨_, rfl, _, _, rfl, rfl, (by show (0 : Int) < 2147483549; decide), _, _, rfl, rfl, .inr ⟨by decide, by decide⟩, _, rfl, _, _, rfl, rfl, .inl ⟨by decide, by decide⟩, _, _, rfl, rfl, _, _, rfl, rfl,
        .inl ⟨_, rfl, _, _, rfl, rfl, (by show (0 : Int) < 2147483579; decide), _, _, rfl, rfl, (by show 2 ≤ sizeLine; decide), fun p np => ?_⟩⟩⟩
      exact q _ p (same_upd np) np (pot_fin _)
    · refine ⟨_, rfl, 10, 18, rfl, rfl, ⟨by decide, by decide, by decide⟩, _, _, rfl, rfl, _, _, rfl, ?_⟩
      refine ⟨_, rfl, .inl ⟨_, rfl, _, _, rfl, rfl, (by show (0 : Int) < 2147483549; decide), _, _, rfl, rfl, .inr ⟨by decide, by decide⟩, _, rfl, _, _, rfl, rfl, .inl ⟨by decide, by decide⟩, _, _, rfl, rfl, _, _, rfl, rfl,
        .inl ⟨_, rfl, _, _, rfl, rfl, (by show (0 : Int) < 2147483579; decide), _, _, rfl, rfl, (by show 2 ≤ sizeLine; decide), fun p np => ?_⟩⟩⟩
      exact q _ p (same_upd np) np (pot_fin _)
/-! ### _law_draw -/
def spDraw : Sp := fun vs H Q _ => ∃ (a : Addr) (n : Nat), vs = [.ref a, .int (n : Int)] ∧ Pot H a ∧ 0 < n ∧ n ≤ 1000000 ∧ ∀ (H' : Hp) (d : Nat), d < n → Pot H' a → Off a H H' → Q (.int (d : Int)) H'
theorem ix2_0 {x y : V} : ixN [x, y].length (0 : Int) = some 0 := rfl
theorem ix2_1 {x y : V} : ixN [x, y].length (1 : Int) = some 1 := rfl
theorem ok_law_draw (T : All K mg) : FnOk P w K mg base CX0 1 T.f_law_draw T.d_law_draw ["_law_pot_here", "_law_sides"] spDraw := by
  refine T.law_draw.F.ok sc_law_draw (fun vs H Q E h => ?_) (fun cdv A outer s H vs Q E hr h => ?_)
  · obtain ⟨a, n, rfl, _⟩ := h
    rfl
  · obtain ⟨a, n, rfl, hp, hn, hn2, q⟩ := h
    obtain ⟨x, y, ha, hx, hy, hy2⟩ := hp
    refine ⟨_, pss_cons (ps_if (pt_cmpR op_gt (pe_ix ix_list (pv 0) pe_int (fun _ _ => rfl)) pe_int (nomark _))
        (pss_cons (ps_asg (pe_callB call_divmod (by rfl) T.b_divmod PyProof.Rows.boot_divmod (pa_cons (pe_ix ix_list (pv 0) pe_int (fun _ _ => rfl)) (pa_cons (pv 1) pa_nil))) (pg_tup (by rfl) (pgs_cons (pg_sub (pv 0) pe_int set_list) (pgs_cons (pg_name (i := 2) sc_law_draw.nd rfl (.inl rfl)) pgs_nil))))
        (pss_one (ps_ret (pv 2)))) pss_nil)
      (pss_cons (ps_asg (pe_op op_mod (pe_callTy call_int1 (by rfl) T.b_int PyProof.Rows.boot_int (pa_cons (pe_op op_add (pe_op op_mul (pe_ix ix_list (pv 0) pe_int (fun _ _ => rfl)) pe_int) pe_int) pa_nil)) pe_int) (pg_sub (pv 0) pe_int set_list))
      (pss_one (ps_ret (pe_op op_mod (pe_callTy call_int1 (by rfl) T.b_int PyProof.Rows.boot_int (pa_cons (pe_op op_fdiv (pe_op op_mod (pe_callTy call_int1 (by rfl) T.b_int PyProof.Rows.boot_int (pa_cons (pe_op op_mul (pe_ix ix_list (pv 0) pe_int (fun _ _ => rfl)) (pe_ix ix_list (pv 0) pe_int (fun _ _ => rfl))) pa_nil)) pe_int) pe_int) pa_nil)) (pv 1))))), ?_⟩
    refine ⟨_, rfl, a, _, _, .int x, rfl, rfl, .inl (.inl ha), rfl, _, _, rfl, rfl, _, rfl, ite2 (fun e => ?_) (fun e => ?_)⟩
    · -- the pot's own digits
      have hx0 : 0 < x := of_decide_eq_true e
      refine ⟨_, rfl, a, _, _, .int x, rfl, rfl, .inl (.inl ha), rfl, _, rfl, x, n, rfl, ⟨by omega, by omega⟩, fun t nt => ?_⟩
      have nat' : a ≠ t := ne_of_none ha nt
      have ha2 : upd H t (.tup [.int (x / n), .int (x % n)]) a = some (.lst [.int x, .int y]) := by rw [upd_ne nat']; exact ha
      refine ⟨t, _, rfl, .inl (.inl upd_same), rfl, _, _, rfl, _, rfl, a, _, _, 0, rfl, rfl, ha2, ix2_0, _, _, rfl, rfl, ?_⟩
      have h0 := Int.emod_nonneg x (show (n : Int) ≠ 0 by omega)
      have h1 := Int.emod_lt_of_pos x (show (0 : Int) < (n : Int) by omega)
      obtain ⟨d, hd⟩ := Int.eq_ofNat_of_zero_le h0
      refine ⟨_, rfl, ?_⟩
      rw [hd]
      refine q _ d (by omega) ⟨x / n, y, upd_same, Int.ediv_nonneg hx (by omega), hy, hy2⟩ (Off.at (Off.up (Off.refl a H) nt))
    · -- the mixed number
      refine ⟨_, rfl, a, _, _, .int y, rfl, rfl, .inl (.inl ha), rfl, y, _, rfl, rfl, .inl ⟨by omega, by omega⟩, _, _, rfl, rfl, .inl ⟨_, rfl, _, _, rfl, rfl, (by show (0 : Int) < 2147483563; decide), ?_⟩⟩
      refine ⟨_, rfl, a, _, _, 1, rfl, rfl, ha, ix2_1, ?_⟩
      have hz := Int.emod_nonneg (y * 40009 + 1043) (show (2147483563 : Int) ≠ 0 by decide)
      have hz2 := Int.emod_lt_of_pos (y * 40009 + 1043) (show (0 : Int) < 2147483563 by decide)
      obtain ⟨z, hz0⟩ : ∃ z, (y * 40009 + 1043) % 2147483563 = z := ⟨_, rfl⟩
      have hA : upd H a (.lst ([V.int x, V.int y].set 1 ((fun i j => V.int (i % j)) (y * 40009 + 1043) 2147483563))) a = some (.lst [.int x, .int z]) := by
        rw [upd_same]
        show some (HO.lst [V.int x, V.int ((y * 40009 + 1043) % 2147483563)]) = _
        rw [hz0]
      rw [hz0] at hz hz2
      refine ⟨_, rfl, a, _, _, .int z, rfl, rfl, .inl (.inl hA), rfl, _, rfl, a, _, _, .int z, rfl, rfl, .inl (.inl hA), rfl, z, z, rfl, rfl, .inl ⟨by omega, by omega⟩,
        .inl ⟨_, rfl, _, _, rfl, rfl, (by show (0 : Int) < 2147483543; decide), _, _, rfl, rfl, ⟨by decide, by decide⟩, .inl ⟨_, rfl, _, rfl, _, _, rfl, rfl, (by show (0 : Int) < (n : Int); omega), ?_⟩⟩⟩
      have h0 := Int.emod_nonneg (z * z % 2147483543 / 17) (show (n : Int) ≠ 0 by omega)
      have h1 := Int.emod_lt_of_pos (z * z % 2147483543 / 17) (show (0 : Int) < (n : Int) by omega)
      obtain ⟨d, hd⟩ := Int.eq_ofNat_of_zero_le h0
      show Q (.int (z * z % 2147483543 / 17 % (n : Int))) _
      rw [hd]
      exact q _ d (by omega) ⟨x, z, hA, hx, hz, by omega⟩ (Off.at (Off.refl a H))
/-! ### _law_pick -/
def spPick (K : PySem.W.Frag) : Sp := fun vs H Q _ => ∃ (a : Addr) (x : V), vs = [.ref a, x] ∧ Pot H a ∧
  ((∃ l : List Nat, x = tx l ∧ l ≠ [] ∧ l.length ≤ 1000 ∧ ∀ (H' : Hp) (c : Nat), c ∈ l → Pot H' a → Off a H H' → Q (tx [c]) H') ∨
   ∃ (b : Addr) (xs : List V), x = .ref b ∧ b ≠ a ∧ SqL K H b xs ∧ xs ≠ [] ∧ xs.length ≤ 1000 ∧ ∀ (H' : Hp) (v : V), v ∈ xs → Pot H' a → Off a H H' → Q v H')
theorem ok_law_pick (T : All K mg) : FnOk P w K mg base CX0 2 T.f_law_pick T.d_law_pick ["_law_pot_here", "_law_some"] (spPick K) := by
  refine T.law_pick.F.ok sc_law_pick (fun vs H Q E h => ?_) (fun cdv A outer s H vs Q E hr h => ?_)
  · obtain ⟨a, x, rfl, _⟩ := h
    rfl
  · obtain ⟨a, x, rfl, hp, h⟩ := h
    refine ⟨_, pss_one (ps_ret (pe_ix ix_seq (pv 1) (pe_call (ok_law_draw T) hr (by rfl) T.law_draw.g T.law_draw.F.kp T.law_draw.b .nil pass0 (pa_cons (pv 0) (pa_cons (pe_callB call_len (by rfl) T.b_len PySem.boot_len (pa_cons (pv 1) pa_nil)) pa_nil))) (fun _ _ => rfl))), ?_⟩
    rcases h with ⟨l, rfl, hl, hl2, q⟩ | ⟨b, xs, rfl, hba, hS, hl, hl2, q⟩
    · have hpos : 0 < l.length := List.length_pos_iff.mpr hl
      refine ⟨_, rfl, _, rfl, _, rfl, _, l.length, rfl, ⟨by rw [tS_len, sizeLine_eq]; omega, (tS_len l).symm⟩, a, l.length, rfl, hp, hpos, by omega, fun H' d hd hp' ho => ?_⟩
      refine .inr (.inr ⟨_, _, l[d], rfl, rfl, by rw [tS_len, sizeLine_eq]; omega, atI_nat (by simp [hd]), ?_⟩)
      exact q H' l[d] (List.getElem_mem hd) hp' ho
    · have hpos : 0 < xs.length := List.length_pos_iff.mpr hl
      refine ⟨_, rfl, _, rfl, _, rfl, _, xs.length, rfl, .inl ⟨xs, hS, rfl⟩, a, xs.length, rfl, hp, hpos, by omega, fun H' d hd hp' ho => ?_⟩
      refine .inl ⟨b, xs, _, xs[d], rfl, rfl, ho.seq hba hS, atI_nat (List.getElem?_eq_getElem hd), ?_⟩
      exact q H' xs[d] (List.getElem_mem hd) hp' ho
theorem glue_fold (g : Str) (hg : g.cps = #[]) : ∀ (ls : List (List Nat)) (acc : Array Nat), (ls.map tS).foldl (fun acc p => acc ++ g.cps ++ p.cps) acc = acc ++ ls.flatten.toArray
  | [], acc => by simp
  | l :: ls, acc => by
    rw [List.map_cons, List.foldl_cons, glue_fold g hg ls, hg]
    simp
theorem join_tx (ls : List (List Nat)) : Txt.join ("" : Str) (ls.map tS) = tS ls.flatten := by
  show (⟨((ls.map tS).drop 1).foldl (fun acc p => acc ++ ("" : Str).cps ++ p.cps) ((ls.map tS).headD Str.empty).cps⟩ : Str) = _
  have hg : ("" : Str).cps = #[] := by decide +kernel
  cases ls with
  | nil => rfl
  | cons l ls =>
    show (⟨(ls.map tS).foldl (fun acc p => acc ++ ("" : Str).cps ++ p.cps) l.toArray⟩ : Str) = _
    rw [glue_fold _ hg]
    simp
theorem flat_one (cs : List Nat) : (cs.map fun c => [c]).flatten = cs := by
  induction cs with
  | nil => rfl
  | cons c cs ih => rw [List.map_cons, List.flatten_cons, ih]; rfl
theorem sum_one (cs : List Nat) : ((cs.map fun c => tS [c]).map (·.length)).sum = cs.length := by
  induction cs with
  | nil => rfl
  | cons c cs ih =>
    rw [List.map_cons, List.map_cons, List.sum_cons, ih, List.length_cons, tS_len]
    simp
    omega
theorem Pot.up {H : Hp} {a p : Addr} {o : HO} (h : Pot H a) (n : a ≠ p) : Pot (upd H p o) a := by
  obtain ⟨x, y, e, r⟩ := h
  exact ⟨x, y, by rw [upd_ne n]; exact e, r⟩
theorem Pot.ne {H : Hp} {a p : Addr} (h : Pot H a) (e : H p = none) : a ≠ p := fun z => h.some (by rw [z]; exact e)
theorem Pot.same {H H' : Hp} {a : Addr} (h : Pot H a) (s : Same H H') : Pot H' a := by
  obtain ⟨x, y, e, r⟩ := h
  exact ⟨x, y, s _ _ e, r⟩
/-! ### _law_text -/
def spText : Sp := fun vs H Q _ => ∃ (a : Addr) (sg : List Nat) (m : Nat), vs = [.ref a, tx sg, .int (m : Int)] ∧ Pot H a ∧ sg ≠ [] ∧ sg.length ≤ 1000 ∧ m ≤ 1000 ∧
  ∀ (H' : Hp) (t : List Nat), t.length ≤ m → (∀ c ∈ t, c ∈ sg) → Pot H' a → Off a H H' → Q (tx t) H'
theorem ok_law_text (T : All K mg) : FnOk P w K mg base CX0 3 T.f_law_text T.d_law_text ["_law_pot_here", "_law_signs", "_law_most"] spText := by
  refine T.law_text.F.ok sc_law_text (fun vs H Q E h => ?_) (fun cdv A outer s H vs Q E hr h => ?_)
  · obtain ⟨a, sg, m, rfl, _⟩ := h
    rfl
  · obtain ⟨a, sg, m, rfl, hp, hs, hs2, hm, q⟩ := h
    refine ⟨_, pss_one (ps_ret (pe_join pe_str (pe_lc (own := [("_law_turn", 3)]) (g := gName 3) (tt := tYes) rfl sc_law_text.nd (pi_range1 rfl T.b_range (pa_cons (pe_call (ok_law_draw T) (hr.mono (by decide)) (by rfl) T.law_draw.g T.law_draw.F.kp T.law_draw.b .nil pass0 (pa_cons (pv 0) (pa_cons (pe_op op_add (pv 2) pe_int) pa_nil))) pa_nil))
      (blkOk_by (own := [("_law_turn", 3)]) (N := ["_law_pot_here", "_law_signs", "_law_most", "_law_turn"]) (sc := defScope s_law_text) (by decide +kernel))
      (fun _ _ _ _ _ => pg_name (i := 3) sc_law_text.nd rfl (Or.inl rfl)) (fun _ _ _ _ _ => pts_nil)
      (fun _ _ _ _ _ => pe_call (ok_law_pick T) hr (by rfl) T.law_pick.g T.law_pick.F.kp T.law_pick.b .nil pass0 (pa_cons (pv 0) (pa_cons (pv 1) pa_nil)))))), ?_⟩
    refine ⟨⟨_, rfl⟩, _, rfl, _, rfl, _, _, rfl, rfl, a, m + 1, rfl, hp, by omega, by omega, fun H1 d hd hp1 ho1 => ?_⟩
    refine ⟨_, rfl, by omega, by omega, fun D nD => ?_⟩
    have hda : a ≠ D := hp1.ne nD
    have nD0 : H D = none := ho1.free nD hp1
    refine lc_gen walk_range (fun H' => Pot H' a ∧ Off a H H') (fun i acc => ∃ cs : List Nat, acc = cs.map (fun c => tx [c]) ∧ cs.length = i ∧ ∀ c ∈ cs, c ∈ sg) (by rw [sizeLine_eq]; omega) (fun i acc ⟨cs, e, l, _⟩ => by rw [e, List.length_map]; omega)
      ⟨[], rfl, rfl, fun c hc => by simp at hc⟩ ⟨hp1.up hda, ho1.up nD0⟩ (fun H' x h => ⟨h.1.up hda, h.2.up nD0⟩) (fun _ _ => trivial) (fun i x H2 H3 acc C N hi r hD ha y c n => ?_) (fun H2 xs r hD ha => ?_)
    · obtain ⟨rfl, rfl⟩ := y
      obtain ⟨cs, rfl, hcl, hcm⟩ := ha
      refine ⟨rfl, yes_te ?_⟩
      refine ⟨_, rfl, _, rfl, a, _, rfl, r.1, .inl ⟨sg, rfl, hs, hs2, fun H4 ch hch hp4 ho4 => ?_⟩⟩
      refine c _ _ ⟨hp4, r.2.trans ho4⟩ (ho4 _ _ hD hda.symm) ⟨cs ++ [ch], by rw [List.map_append]; rfl, by rw [List.length_append, hcl]; rfl, fun x hx => ?_⟩
      rcases List.mem_append.mp hx with hx | hx
      · exact hcm x hx
      · rw [List.mem_singleton.mp hx]
        exact hch
    · obtain ⟨cs, rfl, hcl, hcm⟩ := ha
      refine ⟨_, D, cs.map fun c => tS [c], rfl, rfl, .inl (.inl (.inl (by rw [hD, List.map_map]; rfl))), ?_, ?_⟩
      · rw [sum_one, List.length_map]
        have : ("" : Str).length = 0 := by decide +kernel
        rw [this]
        omega
      · have e : (cs.map fun c => tS [c]) = (cs.map fun c => [c]).map tS := by rw [List.map_map]; rfl
        rw [e, join_tx, flat_one]
        exact q _ cs (by omega) hcm r.1 r.2
theorem Small.of {t sg : List Nat} (h : ∀ c ∈ t, c ∈ sg) (hs : Small sg) (hl : t.length ≤ 1000) : Small t := ⟨fun c hc => hs.1 c (h c hc), hl⟩
theorem ne_self {x : V} : (!decide (x = x)) = false := by simp
theorem repL_one (c : Nat) : ∀ n, repL n [c] = List.replicate n c
  | 0 => rfl
  | n + 1 => by show [c] ++ repL n [c] = _; rw [repL_one c n]; rfl
theorem Pot.off {H H' : Hp} {a : Addr} (h : Pot H a) (s : Same H H') : Pot H' a ∧ Off a H H' := ⟨h.same s, .of s⟩
theorem sorted_len (t : List Nat) : (sortT keyLen (M11.subs t)).length = (M11.subs t).length := (sortT_perm keyLen (M11.subs t)).length_eq
theorem sorted_mem {t x : List Nat} : x ∈ sortT keyLen (M11.subs t) ↔ x.Sublist t := by
  rw [(sortT_perm keyLen (M11.subs t)).mem_iff, M11.mem_subs]
theorem subs_1024 {t : List Nat} (h : t.length ≤ 10) : (M11.subs t).length ≤ 1024 := Nat.le_trans (M11.subs_len_le t) (Nat.pow_le_pow_right (by decide) h)
theorem Small.sub {x t : List Nat} (h : Small t) (s : x.Sublist t) : Small x := ⟨fun c hc => h.1 c (s.subset hc), Nat.le_trans s.length_le h.2⟩
theorem shw_parts {t : List Nat} (h : Small t) (h10 : t.length ≤ 10) : Shw (.list (dTx (sortT keyLen (M11.subs t)))) := by
  refine shw_txs (B := 10) (n := 1024) (fun l hl c hc => ?_) (fun l hl => ?_) (by rw [sorted_len]; exact subs_1024 h10) (by decide)
  · have := (h.sub (sorted_mem.mp hl)).1 c hc
    omega
  · exact Nat.le_trans (sorted_mem.mp hl).length_le h10
theorem all_id_rep (n : Nat) : (List.replicate n true).all id = true := by
  induction n with
  | zero => rfl
  | succ n ih => rw [List.replicate_succ, List.all_cons, ih]; rfl
end
end Lw
namespace Lw
open PySem PySem.Spec PyProof.Rows L2 L3
section
variable {P : Program} {w : World} {K : PySem.W.Frag} {mg : Str → Option Value} {base : Heap}
/-! ### first_longest -/
def spFirst (K : PySem.W.Frag) : Sp := fun vs H Q _ => ∃ (a : Addr) (ls : List (List Nat)), vs = [.ref a] ∧ SqL K H a (ls.map tx) ∧ ls ≠ [] ∧ ls.length ≤ 1000 ∧ (∀ l ∈ ls, l.length ≤ 1000) ∧ ∀ H' m, Same H H' → M13.BestP m ls → Q (tx m) H'
theorem ok_first_longest (T : All K mg) : FnOk P w K mg base CX0 1 T.f_first_longest T.d_first_longest ["texts"] (spFirst K) := by
  refine T.first_longest.F.ok sc_first_longest (fun vs H Q E h => ?_) (fun cdv A outer s H vs Q E hr h => ?_)
  · obtain ⟨a, ls, rfl, _⟩ := h
    rfl
  · obtain ⟨a, ls, rfl, hS, hne, hlen, hl, q⟩ := h
    refine ⟨_, pss_cons (ps_set (i := 1) sc_first_longest.nd rfl (by first | exact Or.inl rfl | exact Or.inr rfl) (pe_callB (cr_max rfl) (by rfl) T.b_max PyProof.Rows.boot_max (pa_cons (pe_lc (own := [("text", 2)]) (g := gName 2) (tt := tYes) rfl sc_first_longest.nd (pi_list (pv 0))
          (blkOk_by (own := [("text", 2)]) (N := ["texts", "most", "text"]) (sc := defScope s_first_longest) (by decide +kernel))
          (fun _ _ _ _ _ => pg_name (i := 2) sc_first_longest.nd rfl (Or.inl rfl)) (fun _ _ _ _ _ => pts_nil)
          (fun _ _ _ _ _ => (pe_callB call_lenT (by rfl) T.b_len PySem.boot_len (pa_cons (pv 2) pa_nil)))) pa_nil)))
      (pss_one (ps_ret (pe_callB (cr_minT rfl hr) (by rfl) T.b_min PyProof.Rows.boot_min (pa_cons (pe_lc (own := [("text", 2)]) (g := gName 2) rfl sc_first_longest.nd (pi_list (pv 0))
          (blkOk_by (own := [("text", 2)]) (N := ["texts", "most", "text"]) (sc := defScope s_first_longest) (by decide +kernel))
          (fun _ _ _ _ _ => pg_name (i := 2) sc_first_longest.nd rfl (Or.inl rfl)) (fun _ _ _ _ _ => (pts_one (pt_cmpR op_eq (pe_callB call_lenT (by rfl) T.b_len PySem.boot_len (pa_cons (pv 2) pa_nil)) (pv 1) (nomark _))))
          (fun _ _ _ _ _ => (pv 2))) pa_nil)))), ?_⟩
    have hz : ∀ l ∈ ls, l.length ≤ sizeLine := fun l h => by have := hl l h; rw [sizeLine_eq]; omega
    refine ⟨_, rfl, a, rfl, ⟨_, hS⟩, fun D nD => ?_⟩
    refine lc_gen (walk_list (xs := ls.map tx)) (Same H) (fun i acc => acc = (ls.take i).map fun l => V.int (l.length : Int)) ?_ (fun i acc e => by rw [e, List.length_map, List.length_take]; omega) rfl (same_upd nD) (fun _ _ h => same_up h nD) (fun _ h => sq_same hS h) (fun i x H2 H3 acc C N hi r hD ha y c n => ?_) (fun H2 xs r hD ha => ?_)
    · rw [List.length_map, sizeLine_eq]; omega
    · obtain ⟨rfl, y⟩ := y
      rw [List.getElem?_map] at y
      obtain ⟨l, hl', rfl⟩ := Option.map_eq_some_iff.mp y
      refine ⟨rfl, yes_te ?_⟩
      refine ⟨_, rfl, l, rfl, hz l (List.mem_of_getElem? hl'), c _ _ r hD ?_⟩
      rw [ha, List.take_add_one, hl']
      simp
    · subst ha
      rw [List.length_map, List.take_length] at hD
      refine ⟨D, ls.map fun l => (l.length : Int), rfl, .inl (.inl (by rw [hD, List.map_map]; rfl)), by rw [List.length_map]; exact List.length_pos_iff.mpr hne, fun m hm hmax => ?_⟩
      obtain ⟨l0, hl0, rfl⟩ := List.mem_map.mp hm
      have hmax' : ∀ y ∈ ls, y.length ≤ l0.length := fun y hy => by
        have := hmax _ (List.mem_map.mpr ⟨y, hy, rfl⟩)
        omega
      refine ⟨_, rfl, a, rfl, ⟨_, sq_same hS r⟩, fun D2 nD2 => ?_⟩
      have nD2' := r.free nD2
      refine lc_gen (walk_list (xs := ls.map tx)) (Same H) (fun i acc => acc = ((ls.take i).filter fun l => decide (l.length = l0.length)).map tx) ?_ (fun i acc e => by rw [e, List.length_map]; exact Nat.le_trans (List.length_filter_le _ _) (by rw [List.length_take]; omega)) rfl (same_up r nD2') (fun _ _ h => same_up h nD2') (fun _ h => sq_same hS h) (fun i x H3 H4 acc C N hi r3 hD3 ha y c n => ?_) (fun H3 xs r3 hD3 ha => ?_)
      · rw [List.length_map, sizeLine_eq]; omega
      · obtain ⟨rfl, y⟩ := y
        rw [List.getElem?_map] at y
        obtain ⟨l, hl', rfl⟩ := Option.map_eq_some_iff.mp y
        have ek : ls.take (i + 1) = ls.take i ++ [l] := by rw [List.take_add_one, hl']; rfl
        refine ⟨rfl, ⟨_, rfl, l, rfl, hz l (List.mem_of_getElem? hl'), _, rfl, rfl, _, rfl, ?_⟩⟩
        by_cases e : l.length = l0.length
        · rw [decide_eq_true (by rw [e])]
          refine iteT ⟨_, rfl, c _ _ r3 hD3 ?_⟩
          rw [ha, ek, List.filter_append, List.map_append]
          simp [e]
        · rw [decide_eq_false (fun z => e (by have := V.int.inj z; omega))]
          refine iteF (n _ r3 hD3 ?_)
          rw [ha, ek, List.filter_append, List.map_append]
          simp [e]
      · subst ha
        rw [List.length_map, List.take_length] at hD3
        refine ⟨D2, ls.filter fun l => decide (l.length = l0.length), rfl, .inl (.inl hD3), fun z => ?_, fun m hm hmin => ?_⟩
        · have : l0 ∈ ls.filter fun l => decide (l.length = l0.length) := List.mem_filter.mpr ⟨hl0, by simp⟩
          rw [z] at this
          cases this
        · obtain ⟨hm1, hm2⟩ := List.mem_filter.mp hm
          have hm2 := of_decide_eq_true hm2
          refine q _ m r3 ⟨hm1, fun y hy => ?_⟩
          have := hmax' y hy
          by_cases e : y.length = l0.length
          · exact .inr ⟨by omega, hmin y (List.mem_filter.mpr ⟨hy, decide_eq_true e⟩)⟩
          · exact .inl (by omega)
end
end Lw
namespace Lw
open PySem PySem.Spec PyProof.Rows L2 L3
theorem cp_eq {a b t1 t2 t3 r : List Nat} {k q : Nat} (hk : k < a.length) (hq : q < b.length) (e : a[k] = b[q]) (h1 : M13.CP (a.drop k) (b.drop (q + 1)) t1) (h2 : M13.CP (a.drop (k + 1)) (b.drop q) t2) (h3 : M13.CP (a.drop (k + 1)) (b.drop (q + 1)) t3) (hr : M13.BestP r [t1, t2, a[k] :: t3]) : M13.CP (a.drop k) (b.drop q) r := by
  rw [List.drop_eq_getElem_cons hk] at h1 ⊢
  rw [List.drop_eq_getElem_cons hq] at h2 ⊢
  rw [← e] at h2 ⊢
  exact h1.step h2 h3 hr
theorem cp_ne {a b t1 t2 r : List Nat} {k q : Nat} (hk : k < a.length) (hq : q < b.length) (e : a[k] ≠ b[q]) (h1 : M13.CP (a.drop k) (b.drop (q + 1)) t1) (h2 : M13.CP (a.drop (k + 1)) (b.drop q) t2) (hr : M13.BestP r [t1, t2]) : M13.CP (a.drop k) (b.drop q) r := by
  rw [List.drop_eq_getElem_cons hk] at h1 ⊢
  rw [List.drop_eq_getElem_cons hq] at h2 ⊢
  exact h1.ne h2 e hr
theorem at_tx {L : List (List Nat)} {j : Nat} (h : j < L.length) : (L.map tx)[j]? = some (tx (L.getD j [])) := by
  rw [List.getElem?_map, List.getElem?_eq_getElem h, List.getD_eq_getElem?_getD, List.getElem?_eq_getElem h]
  rfl
theorem cp_len {a b t : List Nat} {n : Nat} (h : M13.CP a b t) (hn : a.length ≤ n) : t.length ≤ n := Nat.le_trans h.l.length_le hn
theorem drop_le {a : List Nat} {k n : Nat} (h : a.length ≤ n) : (a.drop k).length ≤ n := by rw [List.length_drop]; omega
section
variable {P : Program} {w : World} {K : PySem.W.Frag} {mg : Str → Option Value} {base : Heap}
/-! ### common_part -/
def spCommonPart : Sp := fun vs H Q _ => ∃ a b, vs = [tx a, tx b] ∧ Small a ∧ Small b ∧ a.length ≤ 60 ∧ b.length ≤ 60 ∧ ∀ H' t, Same H H' → M13.CP a b t → Q (tx t) H'
theorem ok_common_part (T : All K mg) : FnOk P w K mg base CX0 3 T.f_common_part T.d_common_part ["one", "other"] spCommonPart := by
  refine T.common_part.F.ok sc_common_part (fun vs H Q E h => ?_) (fun cdv A outer s H vs Q E hr h => ?_)
  · obtain ⟨a, b, rfl, _⟩ := h
    rfl
  · obtain ⟨a, b, rfl, ha, hb, hal, hbl, q⟩ := h
    obtain ⟨tm, hMOST_COMMON⟩ := T.c_MOST_COMMON
    have za := small_len ha
    have zb := small_len hb
    refine ⟨_, pss_cons (ps_expr (pe_call (ok_want_texts T) (hr.mono (by decide)) (by rfl) T.want_texts.g T.want_texts.F.kp T.want_texts.b .nil pass0 (pa_cons (pe_lst (pa_cons (pv 0) (pa_cons (pv 1) pa_nil))) pa_nil)))
      (pss_cons (ps_expr (pe_call (ok_want_few T) (hr.mono (by decide)) (by rfl) T.want_few.g T.want_few.F.kp T.want_few.b .nil pass0 (pa_cons pe_str (pa_cons (pe_callB (call_max2 rfl) (by rfl) T.b_max PyProof.Rows.boot_max (pa_cons (pe_callB call_lenT (by rfl) T.b_len PySem.boot_len (pa_cons (pv 0) pa_nil)) (pa_cons (pe_callB call_lenT (by rfl) T.b_len PySem.boot_len (pa_cons (pv 1) pa_nil)) pa_nil))) (pa_cons (pe_glob (v := .int 60) rfl hMOST_COMMON ⟨_, rfl⟩) pa_nil)))))
      (pss_cons (ps_setLc (i := 2) (own := [("place", 3)]) (g := gName 3) (tt := tYes) (by rfl) sc_common_part.nd rfl rfl (sw_true rfl rfl rfl (by decide +kernel)) (pi_range1 rfl T.b_range (pa_cons (pe_op op_add (pe_callB call_lenT (by rfl) T.b_len PySem.boot_len (pa_cons (pv 1) pa_nil)) pe_int) pa_nil))
          (blkOk_by (own := [("place", 3)]) (N := ["one", "other", "below", "place", "at", "row", "some"]) (sc := defScope s_common_part) (by decide +kernel))
          (fun _ _ _ _ _ => pg_name (i := 3) sc_common_part.nd rfl (Or.inl rfl)) (fun _ _ _ _ _ => pts_nil)
          (fun _ _ _ _ _ => pe_str))
      (pss_cons (ps_for PassesOwn.never rfl (pi_range3 rfl T.b_range (pa_cons (pe_op op_sub (pe_callB call_lenT (by rfl) T.b_len PySem.boot_len (pa_cons (pv 0) pa_nil)) pe_int) (pa_cons (pe_un un_neg pe_int) (pa_cons (pe_un un_neg pe_int) pa_nil)))) (pg_name (i := 4) sc_common_part.nd rfl (by first | exact Or.inl rfl | exact Or.inr rfl))
        (pss_cons (ps_set (i := 5) sc_common_part.nd rfl (by first | exact Or.inl rfl | exact Or.inr rfl) (pe_lst (pa_cons pe_str pa_nil)))
      (pss_cons (ps_for PassesOwn.never rfl (pi_range3 rfl T.b_range (pa_cons (pe_op op_sub (pe_callB call_lenT (by rfl) T.b_len PySem.boot_len (pa_cons (pv 1) pa_nil)) pe_int) (pa_cons (pe_un un_neg pe_int) (pa_cons (pe_un un_neg pe_int) pa_nil)))) (pg_name (i := 3) sc_common_part.nd rfl (by first | exact Or.inl rfl | exact Or.inr rfl))
        (pss_cons (ps_set (i := 6) sc_common_part.nd rfl (by first | exact Or.inl rfl | exact Or.inr rfl) (pe_lst (pa_cons (pe_ix ix_list (pv 5) pe_int (fun _ _ => rfl)) (pa_cons (pe_ix ix_list (pv 2) (pv 3) (fun _ _ => rfl)) pa_nil))))
      (pss_cons (ps_if (pt_cmpR op_eq (pe_ix ix_tx (pv 0) (pv 4) (fun _ _ => rfl)) (pe_ix ix_tx (pv 1) (pv 3) (fun _ _ => rfl)) (nomark _)) (pss_one (ps_expr (pe_bm PySem.F.plainAttrs_list PySem.F.slot_list_append PySem.F.type_list_append mt_append (pv 6) (pa_cons (pe_op op_addT (pe_ix ix_tx (pv 0) (pv 4) (fun _ _ => rfl)) (pe_ix ix_list (pv 2) (pe_op op_add (pv 3) pe_int) (fun _ _ => rfl))) pa_nil)))) pss_nil)
      (pss_one (ps_expr (pe_bm PySem.F.plainAttrs_list PySem.F.slot_list_insert PySem.F.type_list_insert mt_insert (pv 5) (pa_cons pe_int (pa_cons (pe_call (ok_first_longest T) (hr.mono (by decide)) (by rfl) T.first_longest.g T.first_longest.F.kp T.first_longest.b .nil pass0 (pa_cons (pv 6) pa_nil)) pa_nil))))))))
      (pss_one (ps_set (i := 2) sc_common_part.nd rfl (by first | exact Or.inl rfl | exact Or.inr rfl) (pv 5))))))
      (pss_one (ps_ret (pe_ix ix_list (pv 2) pe_int (fun _ _ => rfl))))))), ?_⟩
    refine ⟨_, rfl, _, rfl, by show 2 ≤ sizeLine; decide, fun p np => ⟨p, [a, b], rfl, .inl (.inl upd_same), fun l hl => ?_, fun H1 s1 => ?_⟩⟩
    · simp only [List.mem_cons, List.not_mem_nil, or_false] at hl
      rcases hl with rfl | rfl <;> assumption
    have sm1 : Same H H1 := (same_upd np).trans s1
    refine ⟨_, rfl, a, rfl, za, _, rfl, b, rfl, zb, _, _, rfl, _, _, _, rfl, by split <;> omega, ?_⟩
    refine ⟨_, rfl, b, rfl, zb, _, _, rfl, rfl, _, rfl, by omega, by omega, fun D nD => ?_⟩
    have nD0 := sm1.free nD
    refine lc_gen walk_range (Same H) (fun i acc => acc = List.replicate i (tx [])) (by rw [sizeLine_eq]; omega) (fun i acc e => by rw [e]; simp) rfl (same_up sm1 nD0) (fun _ _ h => same_up h nD0) (fun _ _ => trivial) (fun i x H2 H3 acc C N hi r hD hacc y c n => ?_) (fun H2 xs r hD hacc => ?_)
    · obtain ⟨rfl, rfl⟩ := y
      refine ⟨rfl, yes_te (c _ _ r hD ?_)⟩
      rw [hacc, List.replicate_succ']
      rfl
    subst hacc
    have hn1 : (((b.length : Int) + 1)).toNat = b.length + 1 := by omega
    have hD' : H2 D = some (.lst ((List.replicate (b.length + 1) ([] : List Nat)).map tx)) := by
      rw [hD, List.map_replicate, ← hn1]
    refine ⟨_, rfl, a, rfl, za, _, _, rfl, rfl, 1, rfl, 1, rfl, _, _, _, _, rfl, RgC.neg (by omega) (by omega) (by decide) (by decide), ?_⟩
    have hn : ((a.length : Int) - 1 - -1).toNat = a.length := by omega
    rw [hn]
    refine for_rangeC (lo := (a.length : Int) - 1) (c := -1) (n := a.length) (fun i σ H' => ∃ y3 y4 y5 y6 D L, σ = [some (tx a), some (tx b), some (.ref D), y3, y4, y5, y6] ∧ Same H H' ∧ H D = none ∧ H' D = some (.lst (L.map tx)) ∧ L.length = b.length + 1 ∧ ∀ j, j ≤ b.length → M13.CP (a.drop (a.length - i)) (b.drop j) (L.getD j []))
      ⟨none, none, none, none, D, List.replicate (b.length + 1) [], rfl, r, nD0, hD', by simp, fun j hj => ?_⟩ (fun i σ H3 hi p => ?_) (fun σ H3 p => ?_)
    · have e1 : (List.replicate (b.length + 1) ([] : List Nat)).getD j [] = [] := by
        rw [List.getD_eq_getElem?_getD, List.getElem?_replicate]
        split <;> rfl
      rw [e1, Nat.sub_zero, List.drop_length]
      exact .nil _
    · obtain ⟨y3, y4, y5, y6, D, L, rfl, sm, nD, hD, hL, hcp⟩ := p
      have hk : a.length - 1 - i < a.length := by omega
      have hix : ((a.length : Int) - 1 + (i : Nat) * -1) = ((a.length - 1 - i : Nat) : Int) := by omega
      rw [hix]
      have hk1 : a.length - i = a.length - 1 - i + 1 := by omega
      rw [hk1] at hcp
      refine ⟨by show 1 ≤ sizeLine; decide, fun E nE => ?_⟩
      have nE0 := sm.free nE
      have nDE : D ≠ E := ne_of_none hD nE
      refine ⟨_, rfl, b, rfl, zb, _, _, rfl, rfl, 1, rfl, 1, rfl, _, _, _, _, rfl, RgC.neg (by omega) (by omega) (by decide) (by decide), ?_⟩
      have hn : ((b.length : Int) - 1 - -1).toNat = b.length := by omega
      rw [hn]
      refine for_rangeC (lo := (b.length : Int) - 1) (c := -1) (n := b.length) (fun j σ H' => ∃ y3 y6 R, σ = [some (tx a), some (tx b), some (.ref D), y3, some (.int ((a.length - 1 - i : Nat) : Int)), some (.ref E), y6] ∧ Same H H' ∧ H' D = some (.lst (L.map tx)) ∧ H' E = some (.lst (R.map tx)) ∧ R.length = j + 1 ∧ ∀ m, m ≤ j → M13.CP (a.drop (a.length - 1 - i)) (b.drop (b.length - j + m)) (R.getD m []))
        ⟨y3, y6, [[]], rfl, same_up sm nE0, by rw [upd_ne nDE]; exact hD, upd_same, rfl, fun m hm => ?_⟩ (fun j σ H4 hj p => ?_) (fun σ H4 p => ?_)
      · obtain rfl : m = 0 := by omega
        show M13.CP _ (b.drop (b.length - 0 + 0)) []
        rw [Nat.sub_zero, Nat.add_zero, List.drop_length]
        exact (M13.CP.nil _).sym
      · obtain ⟨y3, y6, R, rfl, sm4, hD4, hE4, hRl, hR⟩ := p
        have hq : b.length - 1 - j < b.length := by omega
        have hjx : ((b.length : Int) - 1 + (j : Nat) * -1) = ((b.length - 1 - j : Nat) : Int) := by omega
        rw [hjx]
        have hq1 : ((b.length - 1 - j : Nat) : Int) + 1 = ((b.length - 1 - j + 1 : Nat) : Int) := by omega
        have c1 := hR 0 (by omega)
        have c2 := hcp (b.length - 1 - j) (by omega)
        have c3 := hcp (b.length - 1 - j + 1) (by omega)
        rw [Nat.add_zero, show b.length - j = b.length - 1 - j + 1 by omega] at c1
        have l1 := cp_len c1 (drop_le hal)
        have l2 := cp_len c2 (drop_le hal)
        have l3 := cp_len c3 (drop_le hal)
        -- some
        refine ⟨_, rfl, E, _, ((0 : Nat) : Int), _, rfl, rfl, .inl (.inl hE4), atI_nat (at_tx (by omega)), ?_⟩
        refine ⟨_, rfl, _, rfl, D, _, _, _, rfl, rfl, .inl (.inl hD4), atI_nat (at_tx (by omega)), ?_⟩
        refine ⟨by show 2 ≤ sizeLine; decide, fun F nF => ?_⟩
        have nF0 := sm4.free nF
        have nDF := ne_of_none hD4 nF
        have nEF := ne_of_none hE4 nF
        dsimp only [gName]
        refine seq_to ?_
        refine join (fun σ' H' => σ' = [some (tx a), some (tx b), some (.ref D), some (.int ((b.length - 1 - j : Nat) : Int)), some (.int ((a.length - 1 - i : Nat) : Int)), some (.ref E), some (.ref F)] ∧ ∃ ls : List (List Nat), Same H H' ∧ H' D = some (.lst (L.map tx)) ∧ H' E = some (.lst (R.map tx)) ∧ H' F = some (.lst (ls.map tx)) ∧ (ls ≠ [] ∧ ls.length ≤ 1000 ∧ ∀ l ∈ ls, l.length ≤ 1000) ∧ ∀ r, M13.BestP r ls → M13.CP (a.drop (a.length - 1 - i)) (b.drop (b.length - 1 - j)) r) (fun N hN => ?_) (fun σ' H6 p => ?_)
        · refine ⟨_, rfl, _, rfl, a, a.length - 1 - i, a[a.length - 1 - i], rfl, rfl, za, List.getElem?_eq_getElem hk, ?_⟩
          refine ⟨_, rfl, _, rfl, b, b.length - 1 - j, b[b.length - 1 - j], rfl, rfl, zb, List.getElem?_eq_getElem hq, ?_⟩
          refine ⟨rfl, _, rfl, ?_⟩
          refine ite2 (fun e => ?_) (fun e => ?_)
          · refine ⟨_, rfl, .inl ⟨rfl, _, .inl (.inl upd_same)⟩, _, rfl, _, rfl, a, a.length - 1 - i, a[a.length - 1 - i], rfl, rfl, za, List.getElem?_eq_getElem hk, _, rfl, _, rfl, _, _, rfl, rfl, D, _, ((b.length - 1 - j + 1 : Nat) : Int), _, rfl, congrArg V.int hq1, .inl (.inl ((upd_ne nDF).trans hD4)), atI_nat (at_tx (by omega)), [a[a.length - 1 - i]], _, rfl, rfl, by rw [sizeLine_eq]; show 1 + (L.getD (b.length - 1 - j + 1) []).length ≤ _; omega, F, _, _, rfl, rfl, upd_same, by show 2 < sizeLine; decide, ?_⟩
            refine hN _ _ ⟨rfl, [R.getD 0 [], L.getD (b.length - 1 - j) [], a[a.length - 1 - i] :: L.getD (b.length - 1 - j + 1) []], same_up (same_up sm4 nF0) nF0, (upd_ne nDF).trans ((upd_ne nDF).trans hD4), (upd_ne nEF).trans ((upd_ne nEF).trans hE4), upd_same, ⟨by simp, by simp, ?_⟩, fun r hr => cp_eq hk hq ?_ c1 c2 c3 hr⟩
            · intro l hl
              simp only [List.mem_cons, List.not_mem_nil, or_false] at hl
              rcases hl with rfl | rfl | rfl
              · omega
              · omega
              · simp only [List.length_cons]; omega
            · have := tx_inj (of_decide_eq_true e)
              simpa using this
          · refine hN _ _ ⟨rfl, [R.getD 0 [], L.getD (b.length - 1 - j) []], same_up sm4 nF0, (upd_ne nDF).trans hD4, (upd_ne nEF).trans hE4, upd_same, ⟨by simp, by simp, ?_⟩, fun r hr => cp_ne hk hq ?_ c1 c2 hr⟩
            · intro l hl
              simp only [List.mem_cons, List.not_mem_nil, or_false] at hl
              rcases hl with rfl | rfl
              · omega
              · omega
            · exact fun z => e (decide_eq_true (by rw [z]))
        · obtain ⟨rfl, ls, sm6, hD6, hE6, hF, hls, hbest⟩ := p
          refine ⟨_, rfl, .inl ⟨rfl, _, .inl (.inl hE6)⟩, _, rfl, F, ls, rfl, .inl (.inl hF), hls.1, hls.2.1, hls.2.2, fun H7 m s7 hm => ?_⟩
          have hE7 := s7 _ _ hE6
          refine ⟨E, _, 0, _, rfl, rfl, hE7, by rw [List.length_map, sizeLine_eq]; omega, by decide, by decide, ?_⟩
          refine ⟨_, _, m :: R, rfl, same_up (sm6.trans s7) nE0, (upd_ne nDE).trans (s7 _ _ hD6), by rw [upd_same]; rfl, by simp; omega, fun n hn => ?_⟩
          cases n with
          | zero =>
            rw [Nat.add_zero, show b.length - (j + 1) = b.length - 1 - j by omega]
            exact hbest m hm
          | succ n =>
            rw [show b.length - (j + 1) + (n + 1) = b.length - j + n by omega]
            exact hR n (by omega)
      · obtain ⟨y3, y6, R, rfl, sm4, hD4, hE4, hRl, hR⟩ := p
        refine ⟨_, rfl, _, _, _, _, E, R, rfl, sm4, nE0, hE4, hRl, fun j hj => ?_⟩
        have := hR j hj
        rw [Nat.sub_self, Nat.zero_add] at this
        rw [show a.length - (i + 1) = a.length - 1 - i by omega]
        exact this
    · obtain ⟨y3, y4, y5, y6, D, L, rfl, sm, nD, hD, hL, hcp⟩ := p
      refine ⟨_, rfl, D, _, ((0 : Nat) : Int), _, rfl, rfl, .inl (.inl hD), atI_nat (at_tx (by omega)), ?_⟩
      have := hcp 0 (Nat.zero_le _)
      rw [Nat.sub_self, List.drop_zero, List.drop_zero] at this
      exact q _ _ sm this
end
end Lw
namespace Lw
open PySem PySem.Spec PyProof.Rows L2 L3
theorem cw_eq {a b t : List Nat} {k q : Nat} (hk : k < a.length) (hq : q < b.length) (e : a[k] = b[q]) (h : M13.CW (a.drop (k + 1)) (b.drop (q + 1)) t) : M13.CW (a.drop k) (b.drop q) (a[k] :: t) := by
  rw [List.drop_eq_getElem_cons hk, List.drop_eq_getElem_cons hq, ← e]
  exact h.step
theorem cw_ne {a b t1 t2 r : List Nat} {k q : Nat} (hk : k < a.length) (hq : q < b.length) (e : a[k] ≠ b[q]) (h1 : M13.CW (a.drop (k + 1)) (b.drop q) t1) (h2 : M13.CW (a.drop k) (b.drop (q + 1)) t2) (hr : M13.BestW r [a[k] :: t1, b[q] :: t2]) : M13.CW (a.drop k) (b.drop q) r := by
  rw [List.drop_eq_getElem_cons hk] at h2 ⊢
  rw [List.drop_eq_getElem_cons hq] at h1 ⊢
  exact h1.ne h2 e hr
theorem cw_len {a b t : List Nat} {n : Nat} (h : M13.CW a b t) (hn : a.length + b.length ≤ n) : t.length ≤ n := by
  have := M13.leW_len (h.m (a ++ b) (List.sublist_append_left _ _) (List.sublist_append_right _ _))
  rw [List.length_append] at this
  omega
theorem bestW_key {m : List Nat} {ts : List (List Nat)} (h1 : m ∈ ts) (h2 : ∀ y ∈ ts, ¬ kLt (keyLen y) (keyLen m)) : M13.BestW m ts := ⟨h1, fun y hy => by
  have h := h2 y hy
  by_cases e : y.length = m.length
  · exact .inr ⟨e.symm, fun z => h (.inr ⟨by show (y.length : Int) = m.length; omega, z⟩)⟩
  · refine .inl ?_
    have : ¬ (y.length : Int) < m.length := fun z => h (.inl z)
    omega⟩
theorem drops_len (b : List Nat) (i : Nat) : ((List.range i).map fun j => b.drop j).length = i := by simp
theorem drops_at (b : List Nat) {i j : Nat} (h : j < i) : ((List.range i).map fun j => b.drop j).getD j [] = b.drop j := by
  rw [List.getD_eq_getElem?_getD, List.getElem?_map, List.getElem?_range h]
  rfl
section
variable {P : Program} {w : World} {K : PySem.W.Frag} {mg : Str → Option Value} {base : Heap}
/-! ### common_whole -/
def spCommonWhole : Sp := fun vs H Q _ => ∃ a b, vs = [tx a, tx b] ∧ Small a ∧ Small b ∧ a.length ≤ 60 ∧ b.length ≤ 60 ∧ ∀ H' t, Same H H' → M13.CW a b t → Q (tx t) H'
theorem ok_common_whole (T : All K mg) : FnOk P w K mg base CX0 3 T.f_common_whole T.d_common_whole ["one", "other"] spCommonWhole := by
  refine T.common_whole.F.ok sc_common_whole (fun vs H Q E h => ?_) (fun cdv A outer s H vs Q E hr h => ?_)
  · obtain ⟨a, b, rfl, _⟩ := h
    rfl
  · obtain ⟨a, b, rfl, ha, hb, hal, hbl, q⟩ := h
    obtain ⟨tm, hMOST_COMMON⟩ := T.c_MOST_COMMON
    have za := small_len ha
    have zb := small_len hb
    refine ⟨_, pss_cons (ps_expr (pe_call (ok_want_texts T) (hr.mono (by decide)) (by rfl) T.want_texts.g T.want_texts.F.kp T.want_texts.b .nil pass0 (pa_cons (pe_lst (pa_cons (pv 0) (pa_cons (pv 1) pa_nil))) pa_nil)))
      (pss_cons (ps_expr (pe_call (ok_want_few T) (hr.mono (by decide)) (by rfl) T.want_few.g T.want_few.F.kp T.want_few.b .nil pass0 (pa_cons pe_str (pa_cons (pe_callB (call_max2 rfl) (by rfl) T.b_max PyProof.Rows.boot_max (pa_cons (pe_callB call_lenT (by rfl) T.b_len PySem.boot_len (pa_cons (pv 0) pa_nil)) (pa_cons (pe_callB call_lenT (by rfl) T.b_len PySem.boot_len (pa_cons (pv 1) pa_nil)) pa_nil))) (pa_cons (pe_glob (v := .int 60) rfl hMOST_COMMON ⟨_, rfl⟩) pa_nil)))))
      (pss_cons (ps_setLc (i := 2) (own := [("place", 3)]) (g := gName 3) (tt := tYes) (by rfl) sc_common_whole.nd rfl rfl (sw_true rfl rfl rfl (by decide +kernel)) (pi_range1 rfl T.b_range (pa_cons (pe_op op_add (pe_callB call_lenT (by rfl) T.b_len PySem.boot_len (pa_cons (pv 1) pa_nil)) pe_int) pa_nil))
          (blkOk_by (own := [("place", 3)]) (N := ["one", "other", "below", "place", "at", "row", "text"]) (sc := defScope s_common_whole) (by decide +kernel))
          (fun _ _ _ _ _ => pg_name (i := 3) sc_common_whole.nd rfl (Or.inl rfl)) (fun _ _ _ _ _ => pts_nil)
          (fun _ _ _ _ _ => (pe_slice sl_tx (pv 1) (po_some (pv 3)) po_none)))
      (pss_cons (ps_for PassesOwn.never rfl (pi_range3 rfl T.b_range (pa_cons (pe_op op_sub (pe_callB call_lenT (by rfl) T.b_len PySem.boot_len (pa_cons (pv 0) pa_nil)) pe_int) (pa_cons (pe_un un_neg pe_int) (pa_cons (pe_un un_neg pe_int) pa_nil)))) (pg_name (i := 4) sc_common_whole.nd rfl (by first | exact Or.inl rfl | exact Or.inr rfl))
        (pss_cons (ps_set (i := 5) sc_common_whole.nd rfl (by first | exact Or.inl rfl | exact Or.inr rfl) (pe_lst (pa_cons (pe_slice sl_tx (pv 0) (po_some (pv 4)) po_none) pa_nil)))
      (pss_cons (ps_for PassesOwn.never rfl (pi_range3 rfl T.b_range (pa_cons (pe_op op_sub (pe_callB call_lenT (by rfl) T.b_len PySem.boot_len (pa_cons (pv 1) pa_nil)) pe_int) (pa_cons (pe_un un_neg pe_int) (pa_cons (pe_un un_neg pe_int) pa_nil)))) (pg_name (i := 3) sc_common_whole.nd rfl (by first | exact Or.inl rfl | exact Or.inr rfl))
        (pss_cons (ps_set (i := 6) sc_common_whole.nd rfl (by first | exact Or.inl rfl | exact Or.inr rfl) (pe_op op_addT (pe_ix ix_tx (pv 0) (pv 4) (fun _ _ => rfl)) (pe_ix ix_list (pv 2) (pe_op op_add (pv 3) pe_int) (fun _ _ => rfl))))
      (pss_cons (ps_if (pt_cmpR op_ne (pe_ix ix_tx (pv 0) (pv 4) (fun _ _ => rfl)) (pe_ix ix_tx (pv 1) (pv 3) (fun _ _ => rfl)) (nomark _)) (pss_one (ps_set (i := 6) sc_common_whole.nd rfl (by first | exact Or.inl rfl | exact Or.inr rfl) (pe_callBK (cr_minKey rfl (ok_text_key T) (hr.mono (by decide)) T.text_key.b) (by rfl) T.b_min PyProof.Rows.boot_min (pa_cons (pe_lst (pa_cons (pe_op op_addT (pe_ix ix_tx (pv 0) (pv 4) (fun _ _ => rfl)) (pe_ix ix_list (pv 2) (pv 3) (fun _ _ => rfl))) (pa_cons (pe_op op_addT (pe_ix ix_tx (pv 1) (pv 3) (fun _ _ => rfl)) (pe_ix ix_list (pv 5) pe_int (fun _ _ => rfl))) pa_nil))) pa_nil) (pk_cons (pe_glob (v := .ref T.f_text_key) rfl T.text_key.g rfl) pk_nil)))) pss_nil)
      (pss_one (ps_expr (pe_bm PySem.F.plainAttrs_list PySem.F.slot_list_insert PySem.F.type_list_insert mt_insert (pv 5) (pa_cons pe_int (pa_cons (pv 6) pa_nil))))))))
      (pss_one (ps_set (i := 2) sc_common_whole.nd rfl (by first | exact Or.inl rfl | exact Or.inr rfl) (pv 5))))))
      (pss_one (ps_ret (pe_ix ix_list (pv 2) pe_int (fun _ _ => rfl))))))), ?_⟩
    refine ⟨_, rfl, _, rfl, by show 2 ≤ sizeLine; decide, fun p np => ⟨p, [a, b], rfl, .inl (.inl upd_same), fun l hl => ?_, fun H1 s1 => ?_⟩⟩
    · simp only [List.mem_cons, List.not_mem_nil, or_false] at hl
      rcases hl with rfl | rfl <;> assumption
    have sm1 : Same H H1 := (same_upd np).trans s1
    refine ⟨_, rfl, a, rfl, za, _, rfl, b, rfl, zb, _, _, rfl, _, _, _, rfl, by split <;> omega, ?_⟩
    refine ⟨_, rfl, b, rfl, zb, _, _, rfl, rfl, _, rfl, by omega, by omega, fun D nD => ?_⟩
    have nD0 := sm1.free nD
    refine lc_gen walk_range (Same H) (fun i acc => acc = ((List.range i).map fun j => b.drop j).map tx) (by rw [sizeLine_eq]; omega) (fun i acc e => by rw [e]; simp) rfl (same_up sm1 nD0) (fun _ _ h => same_up h nD0) (fun _ _ => trivial) (fun i x H2 H3 acc C N hi r hD hacc y c n => ?_) (fun H2 xs r hD hacc => ?_)
    · obtain ⟨rfl, rfl⟩ := y
      refine ⟨rfl, yes_te ⟨_, rfl, _, rfl, _, rfl, b, rfl, zb, .inr ⟨rfl, i, by rw [Int.zero_add], c _ _ r hD ?_⟩⟩⟩
      rw [hacc, List.range_succ, List.map_append, List.map_append]
      rfl
    subst hacc
    have hn1 : (((b.length : Int) + 1)).toNat = b.length + 1 := by omega
    rw [hn1] at hD
    refine ⟨_, rfl, a, rfl, za, _, _, rfl, rfl, 1, rfl, 1, rfl, _, _, _, _, rfl, RgC.neg (by omega) (by omega) (by decide) (by decide), ?_⟩
    have hn : ((a.length : Int) - 1 - -1).toNat = a.length := by omega
    rw [hn]
    refine for_rangeC (lo := (a.length : Int) - 1) (c := -1) (n := a.length) (fun i σ H' => ∃ (y3 y4 y5 y6 : Option V) (D : Addr) (L : List (List Nat)), σ = [some (tx a), some (tx b), some (.ref D), y3, y4, y5, y6] ∧ Same H H' ∧ H D = none ∧ H' D = some (.lst (L.map tx)) ∧ L.length = b.length + 1 ∧ ∀ j, j ≤ b.length → M13.CW (a.drop (a.length - i)) (b.drop j) (L.getD j []))
      ⟨none, none, none, none, D, _, rfl, r, nD0, hD, drops_len _ _, fun j hj => ?_⟩ (fun i σ H3 hi p => ?_) (fun σ H3 p => ?_)
    · rw [drops_at b (by omega), Nat.sub_zero, List.drop_length]
      exact .nil _
    · obtain ⟨y3, y4, y5, y6, D, L, rfl, sm, nD, hD, hL, hcp⟩ := p
      have hk : a.length - 1 - i < a.length := by omega
      have hix : ((a.length : Int) - 1 + (i : Nat) * -1) = ((a.length - 1 - i : Nat) : Int) := by omega
      rw [hix]
      have hk1 : a.length - i = a.length - 1 - i + 1 := by omega
      rw [hk1] at hcp
      refine ⟨_, rfl, _, rfl, _, rfl, a, rfl, za, .inr ⟨rfl, a.length - 1 - i, rfl, by show 1 ≤ sizeLine; decide, fun E nE => ?_⟩⟩
      have nE0 := sm.free nE
      have nDE : D ≠ E := ne_of_none hD nE
      refine ⟨_, rfl, b, rfl, zb, _, _, rfl, rfl, 1, rfl, 1, rfl, _, _, _, _, rfl, RgC.neg (by omega) (by omega) (by decide) (by decide), ?_⟩
      have hn : ((b.length : Int) - 1 - -1).toNat = b.length := by omega
      rw [hn]
      refine for_rangeC (lo := (b.length : Int) - 1) (c := -1) (n := b.length) (fun j σ H' => ∃ (y3 y6 : Option V) (R : List (List Nat)), σ = [some (tx a), some (tx b), some (.ref D), y3, some (.int ((a.length - 1 - i : Nat) : Int)), some (.ref E), y6] ∧ Same H H' ∧ H' D = some (.lst (L.map tx)) ∧ H' E = some (.lst (R.map tx)) ∧ R.length = j + 1 ∧ ∀ m, m ≤ j → M13.CW (a.drop (a.length - 1 - i)) (b.drop (b.length - j + m)) (R.getD m []))
        ⟨y3, y6, [a.drop (a.length - 1 - i)], rfl, same_up sm nE0, by rw [upd_ne nDE]; exact hD, upd_same, rfl, fun m hm => ?_⟩ (fun j σ H4 hj p => ?_) (fun σ H4 p => ?_)
      · obtain rfl : m = 0 := by omega
        show M13.CW _ (b.drop (b.length - 0 + 0)) (a.drop (a.length - 1 - i))
        rw [Nat.sub_zero, Nat.add_zero, List.drop_length]
        exact (M13.CW.nil _).sym
      · obtain ⟨y3, y6, R, rfl, sm4, hD4, hE4, hRl, hR⟩ := p
        have hq : b.length - 1 - j < b.length := by omega
        have hjx : ((b.length : Int) - 1 + (j : Nat) * -1) = ((b.length - 1 - j : Nat) : Int) := by omega
        rw [hjx]
        have hq1 : ((b.length - 1 - j : Nat) : Int) + 1 = ((b.length - 1 - j + 1 : Nat) : Int) := by omega
        have c1 := hR 0 (by omega)
        have c2 := hcp (b.length - 1 - j) (by omega)
        have c3 := hcp (b.length - 1 - j + 1) (by omega)
        rw [Nat.add_zero, show b.length - j = b.length - 1 - j + 1 by omega] at c1
        have da : ∀ k, (a.drop k).length ≤ 60 := fun k => drop_le hal
        have db : ∀ k, (b.drop k).length ≤ 60 := fun k => drop_le hbl
        have l1 := cw_len (n := 120) c1 (Nat.add_le_add (da _) (db _))
        have l2 := cw_len (n := 120) c2 (Nat.add_le_add (da _) (db _))
        have l3 := cw_len (n := 120) c3 (Nat.add_le_add (da _) (db _))
        -- text
        refine ⟨_, rfl, _, rfl, a, a.length - 1 - i, a[a.length - 1 - i], rfl, rfl, za, List.getElem?_eq_getElem hk, _, rfl, _, rfl, _, _, rfl, rfl, D, _, ((b.length - 1 - j + 1 : Nat) : Int), _, rfl, congrArg V.int hq1, .inl (.inl hD4), atI_nat (at_tx (by omega)), [a[a.length - 1 - i]], _, rfl, rfl, by rw [sizeLine_eq]; show 1 + (L.getD (b.length - 1 - j + 1) []).length ≤ _; omega, ?_⟩
        dsimp only [gName]
        refine seq_to ?_
        refine join (fun σ' H' => ∃ r, σ' = [some (tx a), some (tx b), some (.ref D), some (.int ((b.length - 1 - j : Nat) : Int)), some (.int ((a.length - 1 - i : Nat) : Int)), some (.ref E), some (tx r)] ∧ Same H H' ∧ H' D = some (.lst (L.map tx)) ∧ H' E = some (.lst (R.map tx)) ∧ M13.CW (a.drop (a.length - 1 - i)) (b.drop (b.length - 1 - j)) r) (fun N hN => ?_) (fun σ' H6 p => ?_)
        · refine ⟨_, rfl, _, rfl, a, a.length - 1 - i, a[a.length - 1 - i], rfl, rfl, za, List.getElem?_eq_getElem hk, ?_⟩
          refine ⟨_, rfl, _, rfl, b, b.length - 1 - j, b[b.length - 1 - j], rfl, rfl, zb, List.getElem?_eq_getElem hq, ?_⟩
          refine ⟨rfl, _, rfl, ?_⟩
          refine ite2 (fun e => ?_) (fun e => ?_)
          · have hne : a[a.length - 1 - i] ≠ b[b.length - 1 - j] := fun z => by
              rw [z] at e
              simp at e
            refine ⟨_, rfl, _, rfl, a, a.length - 1 - i, a[a.length - 1 - i], rfl, rfl, za, List.getElem?_eq_getElem hk, _, rfl, _, rfl, D, _, _, _, rfl, rfl, .inl (.inl hD4), atI_nat (at_tx (by omega)), [a[a.length - 1 - i]], _, rfl, rfl, by rw [sizeLine_eq]; show 1 + (L.getD (b.length - 1 - j) []).length ≤ _; omega, ?_⟩
            refine ⟨_, rfl, _, rfl, b, b.length - 1 - j, b[b.length - 1 - j], rfl, rfl, zb, List.getElem?_eq_getElem hq, _, rfl, E, _, ((0 : Nat) : Int), _, rfl, rfl, .inl (.inl hE4), atI_nat (at_tx (by omega)), [b[b.length - 1 - j]], _, rfl, rfl, by rw [sizeLine_eq]; show 1 + (R.getD 0 []).length ≤ _; omega, ?_⟩
            refine ⟨by show 2 ≤ sizeLine; decide, fun F nF => ?_⟩
            refine ⟨F, [a[a.length - 1 - i] :: L.getD (b.length - 1 - j) [], b[b.length - 1 - j] :: R.getD 0 []], rfl, rfl, upd_same, by simp, ?_, fun m hm hmin => ?_⟩
            · intro l hl
              simp only [List.mem_cons, List.not_mem_nil, or_false] at hl
              rw [sizeLine_eq]
              rcases hl with rfl | rfl
              · simp only [List.length_cons]; omega
              · simp only [List.length_cons]; omega
            · exact hN _ _ ⟨m, rfl, same_up sm4 (sm4.free nF), (upd_ne (ne_of_none hD4 nF)).trans hD4, (upd_ne (ne_of_none hE4 nF)).trans hE4, cw_ne hk hq hne c2 c1 (bestW_key hm hmin)⟩
          · have heq : a[a.length - 1 - i] = b[b.length - 1 - j] := by
              have : decide (tx [a[a.length - 1 - i]] = tx [b[b.length - 1 - j]]) = true := by
                cases h : decide (tx [a[a.length - 1 - i]] = tx [b[b.length - 1 - j]]) with
                | true => rfl
                | false => exact absurd (by show (!decide (tx [a[a.length - 1 - i]] = tx [b[b.length - 1 - j]])) = true; rw [h]; rfl) e
              simpa using tx_inj (of_decide_eq_true this)
            exact hN _ _ ⟨a[a.length - 1 - i] :: L.getD (b.length - 1 - j + 1) [], rfl, sm4, hD4, hE4, cw_eq hk hq heq c3⟩
        · obtain ⟨r, rfl, sm6, hD6, hE6, hcw⟩ := p
          refine ⟨_, rfl, .inl ⟨rfl, _, .inl (.inl hE6)⟩, _, rfl, E, _, 0, _, rfl, rfl, hE6, by rw [List.length_map, sizeLine_eq]; omega, by decide, by decide, ?_⟩
          refine ⟨_, _, r :: R, rfl, same_up sm6 nE0, (upd_ne nDE).trans hD6, by rw [upd_same]; rfl, by simp; omega, fun n hn => ?_⟩
          cases n with
          | zero =>
            rw [Nat.add_zero, show b.length - (j + 1) = b.length - 1 - j by omega]
            exact hcw
          | succ n =>
            rw [show b.length - (j + 1) + (n + 1) = b.length - j + n by omega]
            exact hR n (by omega)
      · obtain ⟨y3, y6, R, rfl, sm4, hD4, hE4, hRl, hR⟩ := p
        refine ⟨_, rfl, _, _, _, _, E, R, rfl, sm4, nE0, hE4, hRl, fun j hj => ?_⟩
        have := hR j hj
        rw [Nat.sub_self, Nat.zero_add] at this
        rw [show a.length - (i + 1) = a.length - 1 - i by omega]
        exact this
    · obtain ⟨y3, y4, y5, y6, D, L, rfl, sm, nD, hD, hL, hcp⟩ := p
      refine ⟨_, rfl, D, _, ((0 : Nat) : Int), _, rfl, rfl, .inl (.inl hD), atI_nat (at_tx (by omega)), ?_⟩
      have := hcp 0 (Nat.zero_le _)
      rw [Nat.sub_self, List.drop_zero, List.drop_zero] at this
      exact q _ _ sm this
end
end Lw
namespace Lw
open PySem PySem.Spec PyProof.Rows L2 L3
/-- by the way: the longer (-1) or the shorter (1) ones -/
def LeY (w : Int) (x y : List Nat) : Prop := if w = 1 then M13.leW x y else M13.leP x y
def BestY (w : Int) (m : List Nat) (l : List (List Nat)) : Prop := m ∈ l ∧ ∀ y ∈ l, LeY w m y
theorem leY_refl (w : Int) (x : List Nat) : LeY w x x := by
  unfold LeY
  split
  · exact M13.leW_refl x
  · exact M13.leP_refl x
theorem leY_tr {w : Int} {x y z : List Nat} (a : LeY w x y) (b : LeY w y z) : LeY w x z := by
  unfold LeY at *
  split at a
  · rename_i h
    rw [if_pos h] at b ⊢
    exact M13.leW_tr a b
  · rename_i h
    rw [if_neg h] at b ⊢
    exact M13.leP_tr a b
/-- the law's question: y is better than x -/
theorem leY_of {w : Int} (hw : w = 1 ∨ w = -1) {x y : List Nat} (h : w * (y.length : Int) < w * (x.length : Int) ∨ (y.length = x.length ∧ y < x)) : LeY w y x := by
  unfold LeY
  rcases hw with rfl | rfl
  · rw [if_pos rfl]
    rcases h with h | h
    · exact .inl (by omega)
    · exact .inr ⟨h.1, fun z => M13.lt_irr _ (M13.lt_tr h.2 z)⟩
  · rw [if_neg (by decide)]
    rcases h with h | h
    · exact .inl (by omega)
    · exact .inr ⟨h.1.symm, fun z => M13.lt_irr _ (M13.lt_tr h.2 z)⟩
theorem leY_not {w : Int} (hw : w = 1 ∨ w = -1) {x y : List Nat} (h : ¬ (w * (y.length : Int) < w * (x.length : Int) ∨ (y.length = x.length ∧ y < x))) : LeY w x y := by
  unfold LeY
  rcases hw with rfl | rfl
  · rw [if_pos rfl]
    by_cases e : y.length = x.length
    · exact .inr ⟨e.symm, fun z => h (.inr ⟨e, z⟩)⟩
    · exact .inl (by
        have : ¬ (1 * (y.length : Int) < 1 * (x.length : Int)) := fun z => h (.inl z)
        omega)
  · rw [if_neg (by decide)]
    by_cases e : y.length = x.length
    · exact .inr ⟨e, fun z => h (.inr ⟨e, z⟩)⟩
    · exact .inl (by
        have : ¬ (-1 * (y.length : Int) < -1 * (x.length : Int)) := fun z => h (.inl z)
        omega)
section
variable {P : Program} {w : World} {K : PySem.W.Frag} {mg : Str → Option Value} {base : Heap}
/-! ### _law_best -/
def spBest (K : PySem.W.Frag) : Sp := fun vs H Q _ => ∃ (a : Addr) (l0 : List Nat) (ls : List (List Nat)) (y : Int), vs = [.ref a, .int y] ∧ (y = 1 ∨ y = -1) ∧ SqL K H a ((l0 :: ls).map tx) ∧ ls.length ≤ 1000 ∧ (∀ l ∈ l0 :: ls, l.length ≤ 1000) ∧
  ∀ H' m, Same H H' → BestY y m (l0 :: ls) → Q (tx m) H'
theorem ok_law_best (T : All K mg) : FnOk P w K mg base CX0 1 T.f_law_best T.d_law_best ["_law_some", "_law_way"] (spBest K) := by
  refine T.law_best.F.ok sc_law_best (fun vs H Q E h => ?_) (fun cdv A outer s H vs Q E hr h => ?_)
  · obtain ⟨a, l0, ls, y, rfl, _⟩ := h
    rfl
  · obtain ⟨a, l0, ls, y, rfl, hy, hS, hlen, hl, q⟩ := h
    refine ⟨_, pss_cons (ps_set (i := 2) sc_law_best.nd rfl (by first | exact Or.inl rfl | exact Or.inr rfl) (pe_ix ix_list (pv 0) pe_int (fun _ _ => rfl)))
      (pss_cons (ps_for PassesOwn.never rfl (pi_list (pe_slice sl_list (pv 0) (po_some pe_int) po_none)) (pg_name (i := 3) sc_law_best.nd rfl (by first | exact Or.inl rfl | exact Or.inr rfl))
        (pss_one (ps_if (PW.pt (pw_or (pt_cmpR op_lt (pe_op op_mul (pv 1) (pe_callB call_lenT (by rfl) T.b_len PySem.boot_len (pa_cons (pv 3) pa_nil))) (pe_op op_mul (pv 1) (pe_callB call_lenT (by rfl) T.b_len PySem.boot_len (pa_cons (pv 2) pa_nil))) (nomark _)) (pw_or1 (PW.pt (pw_and (pt_cmpR op_eq (pe_callB call_lenT (by rfl) T.b_len PySem.boot_len (pa_cons (pv 3) pa_nil)) (pe_callB call_lenT (by rfl) T.b_len PySem.boot_len (pa_cons (pv 2) pa_nil)) (nomark _)) (pw_and1 (pt_cmpR op_lt_str (pv 3) (pv 2) (nomark _)))))))) (pss_one (ps_set (i := 2) sc_law_best.nd rfl (by first | exact Or.inl rfl | exact Or.inr rfl) (pv 3))) pss_nil)))
      (pss_one (ps_ret (pv 2)))), ?_⟩
    have hz : ∀ l ∈ l0 :: ls, l.length ≤ sizeLine := fun l h => by have := hl l h; rw [sizeLine_eq]; omega
    refine ⟨_, rfl, a, _, ((0 : Nat) : Int), tx l0, rfl, rfl, hS, atI_nat rfl, ?_⟩
    refine ⟨_, rfl, _, rfl, a, _, rfl, hS, fun p np => ?_⟩
    rw [cut1]
    refine ⟨p, rfl, ⟨_, .inl (.inl upd_same)⟩, ?_⟩
    refine for_list (xs := ls.map tx) (fun i σ H' => ∃ (y3 : Option V) (m : List Nat), σ = [some (.ref a), some (.int y), some (tx m), y3] ∧ Same H H' ∧ H' p = some (.lst (ls.map tx)) ∧ BestY y m (l0 :: ls.take i))
      ⟨none, l0, rfl, same_upd np, upd_same, List.mem_cons_self, fun z hz => ?_⟩ (fun j σ H' _ p => by obtain ⟨_, _, _, _, hp, _⟩ := p; exact .inl (.inl hp)) (fun j x σ H2 hx p => ?_) (fun σ H2 p => ?_)
    · simp only [List.take_zero, List.mem_singleton] at hz
      rw [hz]
      exact leY_refl y l0
    · obtain ⟨y3, m, rfl, sm, hp, hb⟩ := p
      rw [List.getElem?_map] at hx
      obtain ⟨l, hl', rfl⟩ := Option.map_eq_some_iff.mp hx
      have hlm : l ∈ l0 :: ls := List.mem_cons_of_mem _ (List.mem_of_getElem? hl')
      have hmm : m ∈ l0 :: ls := by
        rcases List.mem_cons.mp hb.1 with rfl | h
        · exact List.mem_cons_self
        · exact List.mem_cons_of_mem _ (List.mem_of_mem_take h)
      have ek : ls.take (j + 1) = ls.take j ++ [l] := by rw [List.take_add_one, hl']; rfl
      have win : (y * (l.length : Int) < y * (m.length : Int) ∨ (l.length = m.length ∧ l < m)) → BestY y l (l0 :: ls.take (j + 1)) := fun h => by
        rw [ek]
        refine ⟨by simp, fun z hz => ?_⟩
        have h1 := leY_of hy h
        rcases List.mem_cons.mp hz with rfl | hz
        · exact leY_tr h1 (hb.2 _ List.mem_cons_self)
        · rcases List.mem_append.mp hz with hz | hz
          · exact leY_tr h1 (hb.2 _ (List.mem_cons_of_mem _ hz))
          · rw [List.mem_singleton.mp hz]; exact leY_refl y l
      have stay : ¬ (y * (l.length : Int) < y * (m.length : Int) ∨ (l.length = m.length ∧ l < m)) → BestY y m (l0 :: ls.take (j + 1)) := fun h => by
        rw [ek]
        refine ⟨?_, fun z hz => ?_⟩
        · rcases List.mem_cons.mp hb.1 with rfl | h
          · exact List.mem_cons_self
          · exact List.mem_cons_of_mem _ (List.mem_append_left _ h)
        · rcases List.mem_cons.mp hz with rfl | hz
          · exact hb.2 _ List.mem_cons_self
          · rcases List.mem_append.mp hz with hz | hz
            · exact hb.2 _ (List.mem_cons_of_mem _ hz)
            · rw [List.mem_singleton.mp hz]; exact leY_not hy h
      have cm : ∀ j : Int, CMul y j := fun j => .inl (by rcases hy with rfl | rfl <;> exact ⟨by decide, by decide⟩)
      refine ⟨_, rfl, _, rfl, l, rfl, hz l hlm, _, _, rfl, rfl, cm _, _, rfl, _, rfl, m, rfl, hz m hmm, _, _, rfl, rfl, cm _, _, _, rfl, rfl, _, rfl, ite2 (fun e => ?_) (fun e => ?_)⟩
      · refine iteT ⟨_, rfl, ?_⟩
        exact ⟨_, l, rfl, sm, hp, win (.inl (of_decide_eq_true e))⟩
      · refine ⟨_, rfl, l, rfl, hz l hlm, _, rfl, m, rfl, hz m hmm, rfl, _, rfl, ite2 (fun e2 => ?_) (fun e2 => ?_)⟩
        · have el : l.length = m.length := by have := V.int.inj (of_decide_eq_true e2); omega
          refine ⟨_, rfl, _, rfl, _, _, rfl, rfl, _, rfl, ite2 (fun e3 => ?_) (fun e3 => ?_)⟩
          · exact ⟨_, rfl, _, l, rfl, sm, hp, win (.inr ⟨el, of_decide_eq_true e3⟩)⟩
          · refine ⟨_, m, rfl, sm, hp, stay fun z => ?_⟩
            rcases z with z | z
            · exact e (decide_eq_true z)
            · exact e3 (decide_eq_true z.2)
        · refine iteF ⟨_, m, rfl, sm, hp, stay fun z => ?_⟩
          rcases z with z | z
          · exact e (decide_eq_true z)
          · exact e2 (decide_eq_true (by rw [z.1]))
    · obtain ⟨y3, m, rfl, sm, hp, hb⟩ := p
      rw [List.length_map, List.take_length] at hb
      exact ⟨_, rfl, q _ m sm hb⟩
end
end Lw
namespace Lw
open PySem PySem.Spec PyProof.Rows L2 L3
theorem bestY_P {m : List Nat} {l : List (List Nat)} (h : BestY (-1) m l) : M13.BestP m l := ⟨h.1, fun y hy => by
  have := h.2 y hy
  unfold LeY at this
  rw [if_neg (by decide)] at this
  exact this⟩
theorem bestY_W {m : List Nat} {l : List (List Nat)} (h : BestY 1 m l) : M13.BestW m l := ⟨h.1, fun y hy => by
  have := h.2 y hy
  unfold LeY at this
  rw [if_pos rfl] at this
  exact this⟩
theorem rep_flat (n : Nat) (x : V) : (List.replicate n [x]).flatten = List.replicate n x := by
  induction n with
  | zero => rfl
  | succ n ih => rw [List.replicate_succ, List.flatten_cons, ih]; rfl
section
variable {P : Program} {w : World} {K : PySem.W.Frag} {mg : Str → Option Value} {base : Heap}
/-! ### _law_part_table -/
theorem ok_law_part_table (T : All K mg) : FnOk P w K mg base CX0 2 T.f_law_part_table T.d_law_part_table ["_law_one", "_law_other"] spCommonPart := by
  refine T.law_part_table.F.ok sc_law_part_table (fun vs H Q E h => ?_) (fun cdv A outer s H vs Q E hr h => ?_)
  · obtain ⟨a, b, rfl, _⟩ := h
    rfl
  · obtain ⟨a, b, rfl, ha, hb, hal, hbl, q⟩ := h
    have za := small_len ha
    have zb := small_len hb
    refine ⟨_, pss_cons (ps_set (i := 2) sc_law_part_table.nd rfl (by first | exact Or.inl rfl | exact Or.inr rfl) (pe_op op_rep (pe_lst (pa_cons pe_str pa_nil)) (pe_op op_add (pe_callB call_lenT (by rfl) T.b_len PySem.boot_len (pa_cons (pv 1) pa_nil)) pe_int)))
      (pss_cons (ps_for PassesOwn.never rfl (pi_str (pe_step (k := -1) (pv 0) (pe_un un_neg pe_int) (fun σ H Q h => ⟨1, rfl, h⟩) rfl rfl)) (pg_name (i := 3) sc_law_part_table.nd rfl (by first | exact Or.inl rfl | exact Or.inr rfl))
        (pss_cons (ps_set (i := 4) sc_law_part_table.nd rfl (by first | exact Or.inl rfl | exact Or.inr rfl) (pe_lst (pa_cons pe_str pa_nil)))
      (pss_cons (ps_for PassesOwn.never rfl (pi_range3 rfl T.b_range (pa_cons (pe_op op_sub (pe_callB call_lenT (by rfl) T.b_len PySem.boot_len (pa_cons (pv 1) pa_nil)) pe_int) (pa_cons (pe_un un_neg pe_int) (pa_cons (pe_un un_neg pe_int) pa_nil)))) (pg_name (i := 5) sc_law_part_table.nd rfl (by first | exact Or.inl rfl | exact Or.inr rfl))
        (pss_cons (ps_set (i := 6) sc_law_part_table.nd rfl (by first | exact Or.inl rfl | exact Or.inr rfl) (pe_lst (pa_cons (pe_ix ix_list (pv 4) pe_int (fun _ _ => rfl)) (pa_cons (pe_ix ix_list (pv 2) (pv 5) (fun _ _ => rfl)) pa_nil))))
      (pss_cons (ps_if (pt_cmpR op_eq (pe_ix ix_tx (pv 1) (pv 5) (fun _ _ => rfl)) (pv 3) (nomark _)) (pss_one (ps_expr (pe_bm PySem.F.plainAttrs_list PySem.F.slot_list_append PySem.F.type_list_append mt_append (pv 6) (pa_cons (pe_op op_addT (pv 3) (pe_ix ix_list (pv 2) (pe_op op_add (pv 5) pe_int) (fun _ _ => rfl))) pa_nil)))) pss_nil)
      (pss_one (ps_expr (pe_bm PySem.F.plainAttrs_list PySem.F.slot_list_insert PySem.F.type_list_insert mt_insert (pv 4) (pa_cons pe_int (pa_cons (pe_call (ok_law_best T) (hr.mono (by decide)) (by rfl) T.law_best.g T.law_best.F.kp T.law_best.b .nil pass0 (pa_cons (pv 6) (pa_cons (pe_un un_neg pe_int) pa_nil))) pa_nil))))))))
      (pss_one (ps_set (i := 2) sc_law_part_table.nd rfl (by first | exact Or.inl rfl | exact Or.inr rfl) (pv 4))))))
      (pss_one (ps_ret (pe_ix ix_list (pv 2) pe_int (fun _ _ => rfl))))), ?_⟩
    refine ⟨by show 1 ≤ sizeLine; decide, fun p0 np0 => ?_⟩
    refine ⟨_, rfl, b, rfl, zb, _, _, rfl, rfl, p0, _, _, rfl, rfl, upd_same, by omega, by omega, by rw [sizeLine_eq]; show 1 * ((b.length : Int) + 1).toNat ≤ _; omega, fun D nD => ?_⟩
    have nD0 := (same_upd np0).free nD
    have r : ∀ o, Same H (upd (upd H p0 (.lst [tx []])) D o) := fun o => same_up (same_upd np0) nD0
    have hn1 : (((b.length : Int) + 1)).toNat = b.length + 1 := by omega
    refine ⟨_, rfl, a, rfl, za, by rw [stepL_rev, List.length_reverse]; exact za, ?_⟩
    rw [stepL_rev]
    refine ⟨tS a.reverse, rfl, for_it walk_tx (fun i σ H' => ∃ (y3 y4 y5 y6 : Option V) (D : Addr) (L : List (List Nat)), σ = [some (tx a), some (tx b), some (.ref D), y3, y4, y5, y6] ∧ Same H H' ∧ H D = none ∧ H' D = some (.lst (L.map tx)) ∧ L.length = b.length + 1 ∧ ∀ j, j ≤ b.length → M13.CP (a.drop (a.length - i)) (b.drop j) (L.getD j []))
      ⟨none, none, none, none, D, List.replicate (b.length + 1) [], rfl, r _, nD0, ?_, by simp, fun j hj => ?_⟩ (fun _ _ _ _ _ => trivial) (fun i x σ H3 H3' hi p y => ?_) (fun σ H3 p => ?_)⟩
    · rw [upd_same, rep_flat, List.map_replicate, ← hn1]
      rfl
    · have e1 : (List.replicate (b.length + 1) ([] : List Nat)).getD j [] = [] := by
        rw [List.getD_eq_getElem?_getD, List.getElem?_replicate]
        split <;> rfl
      rw [e1, Nat.sub_zero, List.drop_length]
      exact .nil _
    · obtain ⟨y3, y4, y5, y6, D, L, rfl, sm, nD, hD, hL, hcp⟩ := p
      obtain ⟨rfl, c, hc, rfl⟩ := y
      rw [List.length_reverse] at hi
      have hk : a.length - 1 - i < a.length := by omega
      obtain rfl : c = a[a.length - 1 - i] := by
        rw [List.getElem?_reverse hi, List.getElem?_eq_getElem hk] at hc
        exact (Option.some.inj hc).symm
      have hk1 : a.length - i = a.length - 1 - i + 1 := by omega
      rw [hk1] at hcp
      refine ⟨by show 1 ≤ sizeLine; decide, fun E nE => ?_⟩
      have nE0 := sm.free nE
      have nDE : D ≠ E := ne_of_none hD nE
      refine ⟨_, rfl, b, rfl, zb, _, _, rfl, rfl, 1, rfl, 1, rfl, _, _, _, _, rfl, RgC.neg (by omega) (by omega) (by decide) (by decide), ?_⟩
      have hn : ((b.length : Int) - 1 - -1).toNat = b.length := by omega
      rw [hn]
      refine for_rangeC (lo := (b.length : Int) - 1) (c := -1) (n := b.length) (fun j σ H' => ∃ (y5 y6 : Option V) (R : List (List Nat)), σ = [some (tx a), some (tx b), some (.ref D), some (tx [a[a.length - 1 - i]]), some (.ref E), y5, y6] ∧ Same H H' ∧ H' D = some (.lst (L.map tx)) ∧ H' E = some (.lst (R.map tx)) ∧ R.length = j + 1 ∧ ∀ m, m ≤ j → M13.CP (a.drop (a.length - 1 - i)) (b.drop (b.length - j + m)) (R.getD m []))
        ⟨y5, y6, [[]], rfl, same_up sm nE0, by rw [upd_ne nDE]; exact hD, upd_same, rfl, fun m hm => ?_⟩ (fun j σ H4 hj p => ?_) (fun σ H4 p => ?_)
      · obtain rfl : m = 0 := by omega
        show M13.CP _ (b.drop (b.length - 0 + 0)) []
        rw [Nat.sub_zero, Nat.add_zero, List.drop_length]
        exact (M13.CP.nil _).sym
      · obtain ⟨y5, y6, R, rfl, sm4, hD4, hE4, hRl, hR⟩ := p
        have hq : b.length - 1 - j < b.length := by omega
        have hjx : ((b.length : Int) - 1 + (j : Nat) * -1) = ((b.length - 1 - j : Nat) : Int) := by omega
        rw [hjx]
        have hq1 : ((b.length - 1 - j : Nat) : Int) + 1 = ((b.length - 1 - j + 1 : Nat) : Int) := by omega
        have c1 := hR 0 (by omega)
        have c2 := hcp (b.length - 1 - j) (by omega)
        have c3 := hcp (b.length - 1 - j + 1) (by omega)
        rw [Nat.add_zero, show b.length - j = b.length - 1 - j + 1 by omega] at c1
        have l1 := cp_len c1 (drop_le hal)
        have l2 := cp_len c2 (drop_le hal)
        have l3 := cp_len c3 (drop_le hal)
        refine ⟨_, rfl, E, _, ((0 : Nat) : Int), _, rfl, rfl, .inl (.inl hE4), atI_nat (at_tx (by omega)), ?_⟩
        refine ⟨_, rfl, _, rfl, D, _, _, _, rfl, rfl, .inl (.inl hD4), atI_nat (at_tx (by omega)), ?_⟩
        refine ⟨by show 2 ≤ sizeLine; decide, fun F nF => ?_⟩
        have nF0 := sm4.free nF
        have nDF := ne_of_none hD4 nF
        have nEF := ne_of_none hE4 nF
        dsimp only [gName]
        refine seq_to ?_
        refine join (fun σ' H' => σ' = [some (tx a), some (tx b), some (.ref D), some (tx [a[a.length - 1 - i]]), some (.ref E), some (.int ((b.length - 1 - j : Nat) : Int)), some (.ref F)] ∧ ∃ (l0 : List Nat) (ls : List (List Nat)), Same H H' ∧ H' D = some (.lst (L.map tx)) ∧ H' E = some (.lst (R.map tx)) ∧ H' F = some (.lst ((l0 :: ls).map tx)) ∧ (ls.length ≤ 1000 ∧ ∀ l ∈ l0 :: ls, l.length ≤ 1000) ∧ ∀ r, M13.BestP r (l0 :: ls) → M13.CP (a.drop (a.length - 1 - i)) (b.drop (b.length - 1 - j)) r) (fun N hN => ?_) (fun σ' H6 p => ?_)
        · refine ⟨_, rfl, _, rfl, b, b.length - 1 - j, b[b.length - 1 - j], rfl, rfl, zb, List.getElem?_eq_getElem hq, _, rfl, ?_⟩
          refine ⟨rfl, _, rfl, ?_⟩
          refine ite2 (fun e => ?_) (fun e => ?_)
          · refine ⟨_, rfl, .inl ⟨rfl, _, .inl (.inl upd_same)⟩, _, rfl, _, rfl, _, rfl, _, _, rfl, rfl, D, _, ((b.length - 1 - j + 1 : Nat) : Int), _, rfl, congrArg V.int hq1, .inl (.inl ((upd_ne nDF).trans hD4)), atI_nat (at_tx (by omega)), [a[a.length - 1 - i]], _, rfl, rfl, by rw [sizeLine_eq]; show 1 + (L.getD (b.length - 1 - j + 1) []).length ≤ _; omega, F, _, _, rfl, rfl, upd_same, by show 2 < sizeLine; decide, ?_⟩
            refine hN _ _ ⟨rfl, R.getD 0 [], [L.getD (b.length - 1 - j) [], a[a.length - 1 - i] :: L.getD (b.length - 1 - j + 1) []], same_up (same_up sm4 nF0) nF0, (upd_ne nDF).trans ((upd_ne nDF).trans hD4), (upd_ne nEF).trans ((upd_ne nEF).trans hE4), upd_same, ⟨by simp, ?_⟩, fun r hr => cp_eq hk hq ?_ c1 c2 c3 hr⟩
            · intro l hl
              simp only [List.mem_cons, List.not_mem_nil, or_false] at hl
              rcases hl with rfl | rfl | rfl
              · omega
              · omega
              · simp only [List.length_cons]; omega
            · have := tx_inj (of_decide_eq_true e)
              simpa using this.symm
          · refine hN _ _ ⟨rfl, R.getD 0 [], [L.getD (b.length - 1 - j) []], same_up sm4 nF0, (upd_ne nDF).trans hD4, (upd_ne nEF).trans hE4, upd_same, ⟨by simp, ?_⟩, fun r hr => cp_ne hk hq ?_ c1 c2 hr⟩
            · intro l hl
              simp only [List.mem_cons, List.not_mem_nil, or_false] at hl
              rcases hl with rfl | rfl
              · omega
              · omega
            · exact fun z => e (decide_eq_true (by rw [z]))
        · obtain ⟨rfl, l0, ls, sm6, hD6, hE6, hF, hls, hbest⟩ := p
          refine ⟨_, rfl, .inl ⟨rfl, _, .inl (.inl hE6)⟩, _, rfl, 1, rfl, F, l0, ls, -1, rfl, .inr rfl, .inl (.inl hF), hls.1, hls.2, fun H7 m s7 hm => ?_⟩
          have hE7 := s7 _ _ hE6
          refine ⟨E, _, 0, _, rfl, rfl, hE7, by rw [List.length_map, sizeLine_eq]; omega, by decide, by decide, ?_⟩
          refine ⟨_, _, m :: R, rfl, same_up (sm6.trans s7) nE0, (upd_ne nDE).trans (s7 _ _ hD6), by rw [upd_same]; rfl, by simp; omega, fun n hn => ?_⟩
          cases n with
          | zero =>
            rw [Nat.add_zero, show b.length - (j + 1) = b.length - 1 - j by omega]
            exact hbest m (bestY_P hm)
          | succ n =>
            rw [show b.length - (j + 1) + (n + 1) = b.length - j + n by omega]
            exact hR n (by omega)
      · obtain ⟨y5, y6, R, rfl, sm4, hD4, hE4, hRl, hR⟩ := p
        refine ⟨_, rfl, _, _, _, _, E, R, rfl, sm4, nE0, hE4, hRl, fun j hj => ?_⟩
        have := hR j hj
        rw [Nat.sub_self, Nat.zero_add] at this
        rw [show a.length - (i + 1) = a.length - 1 - i by omega]
        exact this
    · obtain ⟨y3, y4, y5, y6, D, L, rfl, sm, nD, hD, hL, hcp⟩ := p
      refine ⟨_, rfl, D, _, ((0 : Nat) : Int), _, rfl, rfl, .inl (.inl hD), atI_nat (at_tx (by omega)), ?_⟩
      have := hcp 0 (Nat.zero_le _)
      rw [List.length_reverse, Nat.sub_self, List.drop_zero, List.drop_zero] at this
      exact q _ _ sm this
end
end Lw
namespace Lw
open PySem PySem.Spec PyProof.Rows L2 L3
section
variable {P : Program} {w : World} {K : PySem.W.Frag} {mg : Str → Option Value} {base : Heap}
/-! ### _law_whole_table -/
theorem ok_law_whole_table (T : All K mg) : FnOk P w K mg base CX0 2 T.f_law_whole_table T.d_law_whole_table ["_law_one", "_law_other"] spCommonWhole := by
  refine T.law_whole_table.F.ok sc_law_whole_table (fun vs H Q E h => ?_) (fun cdv A outer s H vs Q E hr h => ?_)
  · obtain ⟨a, b, rfl, _⟩ := h
    rfl
  · obtain ⟨a, b, rfl, ha, hb, hal, hbl, q⟩ := h
    have za := small_len ha
    have zb := small_len hb
    refine ⟨_, pss_cons (ps_setLc (i := 2) (own := [("_law_at", 3)]) (g := gName 3) (tt := tYes) (by rfl) sc_law_whole_table.nd rfl rfl (sw_true rfl rfl rfl (by decide +kernel)) (pi_range1 rfl T.b_range (pa_cons (pe_op op_add (pe_callB call_lenT (by rfl) T.b_len PySem.boot_len (pa_cons (pv 1) pa_nil)) pe_int) pa_nil))
          (blkOk_by (own := [("_law_at", 3)]) (N := ["_law_one", "_law_other", "_law_below", "_law_at", "_law_place", "_law_row", "_law_some"]) (sc := defScope s_law_whole_table) (by decide +kernel))
          (fun _ _ _ _ _ => pg_name (i := 3) sc_law_whole_table.nd rfl (Or.inl rfl)) (fun _ _ _ _ _ => pts_nil)
          (fun _ _ _ _ _ => (pe_slice sl_tx (pv 1) (po_some (pv 3)) po_none)))
      (pss_cons (ps_for PassesOwn.never rfl (pi_range3 rfl T.b_range (pa_cons (pe_op op_sub (pe_callB call_lenT (by rfl) T.b_len PySem.boot_len (pa_cons (pv 0) pa_nil)) pe_int) (pa_cons (pe_un un_neg pe_int) (pa_cons (pe_un un_neg pe_int) pa_nil)))) (pg_name (i := 4) sc_law_whole_table.nd rfl (by first | exact Or.inl rfl | exact Or.inr rfl))
        (pss_cons (ps_set (i := 5) sc_law_whole_table.nd rfl (by first | exact Or.inl rfl | exact Or.inr rfl) (pe_lst (pa_cons (pe_slice sl_tx (pv 0) (po_some (pv 4)) po_none) pa_nil)))
      (pss_cons (ps_for PassesOwn.never rfl (pi_range3 rfl T.b_range (pa_cons (pe_op op_sub (pe_callB call_lenT (by rfl) T.b_len PySem.boot_len (pa_cons (pv 1) pa_nil)) pe_int) (pa_cons (pe_un un_neg pe_int) (pa_cons (pe_un un_neg pe_int) pa_nil)))) (pg_name (i := 3) sc_law_whole_table.nd rfl (by first | exact Or.inl rfl | exact Or.inr rfl))
        (pss_cons (ps_if (pt_cmpR op_eq (pe_ix ix_tx (pv 1) (pv 3) (fun _ _ => rfl)) (pe_ix ix_tx (pv 0) (pv 4) (fun _ _ => rfl)) (nomark _)) (pss_one (ps_set (i := 6) sc_law_whole_table.nd rfl (by first | exact Or.inl rfl | exact Or.inr rfl) (pe_lst (pa_cons (pe_op op_addT (pe_ix ix_tx (pv 0) (pv 4) (fun _ _ => rfl)) (pe_ix ix_list (pv 2) (pe_op op_add (pv 3) pe_int) (fun _ _ => rfl))) pa_nil)))) (pss_one (ps_set (i := 6) sc_law_whole_table.nd rfl (by first | exact Or.inl rfl | exact Or.inr rfl) (pe_lst (pa_cons (pe_op op_addT (pe_ix ix_tx (pv 0) (pv 4) (fun _ _ => rfl)) (pe_ix ix_list (pv 2) (pv 3) (fun _ _ => rfl))) (pa_cons (pe_op op_addT (pe_ix ix_tx (pv 1) (pv 3) (fun _ _ => rfl)) (pe_ix ix_list (pv 5) pe_int (fun _ _ => rfl))) pa_nil))))))
      (pss_one (ps_expr (pe_bm PySem.F.plainAttrs_list PySem.F.slot_list_insert PySem.F.type_list_insert mt_insert (pv 5) (pa_cons pe_int (pa_cons (pe_call (ok_law_best T) (hr.mono (by decide)) (by rfl) T.law_best.g T.law_best.F.kp T.law_best.b .nil pass0 (pa_cons (pv 6) (pa_cons pe_int pa_nil))) pa_nil)))))))
      (pss_one (ps_set (i := 2) sc_law_whole_table.nd rfl (by first | exact Or.inl rfl | exact Or.inr rfl) (pv 5))))))
      (pss_one (ps_ret (pe_ix ix_list (pv 2) pe_int (fun _ _ => rfl))))), ?_⟩
    refine ⟨_, rfl, b, rfl, zb, _, _, rfl, rfl, _, rfl, by omega, by omega, fun D nD0 => ?_⟩
    refine lc_gen walk_range (Same H) (fun i acc => acc = ((List.range i).map fun j => b.drop j).map tx) (by rw [sizeLine_eq]; omega) (fun i acc e => by rw [e]; simp) rfl (same_upd nD0) (fun _ _ h => same_up h nD0) (fun _ _ => trivial) (fun i x H2 H3 acc C N hi r hD hacc y c n => ?_) (fun H2 xs r hD hacc => ?_)
    · obtain ⟨rfl, rfl⟩ := y
      refine ⟨rfl, yes_te ⟨_, rfl, _, rfl, _, rfl, b, rfl, zb, .inr ⟨rfl, i, by rw [Int.zero_add], c _ _ r hD ?_⟩⟩⟩
      rw [hacc, List.range_succ, List.map_append, List.map_append]
      rfl
    subst hacc
    have hn1 : (((b.length : Int) + 1)).toNat = b.length + 1 := by omega
    rw [hn1] at hD
    refine ⟨_, rfl, a, rfl, za, _, _, rfl, rfl, 1, rfl, 1, rfl, _, _, _, _, rfl, RgC.neg (by omega) (by omega) (by decide) (by decide), ?_⟩
    have hn : ((a.length : Int) - 1 - -1).toNat = a.length := by omega
    rw [hn]
    refine for_rangeC (lo := (a.length : Int) - 1) (c := -1) (n := a.length) (fun i σ H' => ∃ (y3 y4 y5 y6 : Option V) (D : Addr) (L : List (List Nat)), σ = [some (tx a), some (tx b), some (.ref D), y3, y4, y5, y6] ∧ Same H H' ∧ H D = none ∧ H' D = some (.lst (L.map tx)) ∧ L.length = b.length + 1 ∧ ∀ j, j ≤ b.length → M13.CW (a.drop (a.length - i)) (b.drop j) (L.getD j []))
      ⟨none, none, none, none, D, _, rfl, r, nD0, hD, drops_len _ _, fun j hj => ?_⟩ (fun i σ H3 hi p => ?_) (fun σ H3 p => ?_)
    · rw [drops_at b (by omega), Nat.sub_zero, List.drop_length]
      exact .nil _
    · obtain ⟨y3, y4, y5, y6, D, L, rfl, sm, nD, hD, hL, hcp⟩ := p
      have hk : a.length - 1 - i < a.length := by omega
      have hix : ((a.length : Int) - 1 + (i : Nat) * -1) = ((a.length - 1 - i : Nat) : Int) := by omega
      rw [hix]
      have hk1 : a.length - i = a.length - 1 - i + 1 := by omega
      rw [hk1] at hcp
      refine ⟨_, rfl, _, rfl, _, rfl, a, rfl, za, .inr ⟨rfl, a.length - 1 - i, rfl, by show 1 ≤ sizeLine; decide, fun E nE => ?_⟩⟩
      have nE0 := sm.free nE
      have nDE : D ≠ E := ne_of_none hD nE
      refine ⟨_, rfl, b, rfl, zb, _, _, rfl, rfl, 1, rfl, 1, rfl, _, _, _, _, rfl, RgC.neg (by omega) (by omega) (by decide) (by decide), ?_⟩
      have hn : ((b.length : Int) - 1 - -1).toNat = b.length := by omega
      rw [hn]
      refine for_rangeC (lo := (b.length : Int) - 1) (c := -1) (n := b.length) (fun j σ H' => ∃ (y3 y6 : Option V) (R : List (List Nat)), σ = [some (tx a), some (tx b), some (.ref D), y3, some (.int ((a.length - 1 - i : Nat) : Int)), some (.ref E), y6] ∧ Same H H' ∧ H' D = some (.lst (L.map tx)) ∧ H' E = some (.lst (R.map tx)) ∧ R.length = j + 1 ∧ ∀ m, m ≤ j → M13.CW (a.drop (a.length - 1 - i)) (b.drop (b.length - j + m)) (R.getD m []))
        ⟨y3, y6, [a.drop (a.length - 1 - i)], rfl, same_up sm nE0, by rw [upd_ne nDE]; exact hD, upd_same, rfl, fun m hm => ?_⟩ (fun j σ H4 hj p => ?_) (fun σ H4 p => ?_)
      · obtain rfl : m = 0 := by omega
        show M13.CW _ (b.drop (b.length - 0 + 0)) (a.drop (a.length - 1 - i))
        rw [Nat.sub_zero, Nat.add_zero, List.drop_length]
        exact (M13.CW.nil _).sym
      · obtain ⟨y3, y6, R, rfl, sm4, hD4, hE4, hRl, hR⟩ := p
        have hq : b.length - 1 - j < b.length := by omega
        have hjx : ((b.length : Int) - 1 + (j : Nat) * -1) = ((b.length - 1 - j : Nat) : Int) := by omega
        rw [hjx]
        have hq1 : ((b.length - 1 - j : Nat) : Int) + 1 = ((b.length - 1 - j + 1 : Nat) : Int) := by omega
        have c1 := hR 0 (by omega)
        have c2 := hcp (b.length - 1 - j) (by omega)
        have c3 := hcp (b.length - 1 - j + 1) (by omega)
        rw [Nat.add_zero, show b.length - j = b.length - 1 - j + 1 by omega] at c1
        have da : ∀ k, (a.drop k).length ≤ 60 := fun k => drop_le hal
        have db : ∀ k, (b.drop k).length ≤ 60 := fun k => drop_le hbl
        have l1 := cw_len (n := 120) c1 (Nat.add_le_add (da _) (db _))
        have l2 := cw_len (n := 120) c2 (Nat.add_le_add (da _) (db _))
        have l3 := cw_len (n := 120) c3 (Nat.add_le_add (da _) (db _))
        dsimp only [gName]
        refine seq_to ?_
        refine join (fun σ' H' => ∃ (F : Addr) (l0 : List Nat) (ls : List (List Nat)), σ' = [some (tx a), some (tx b), some (.ref D), some (.int ((b.length - 1 - j : Nat) : Int)), some (.int ((a.length - 1 - i : Nat) : Int)), some (.ref E), some (.ref F)] ∧ Same H H' ∧ H' D = some (.lst (L.map tx)) ∧ H' E = some (.lst (R.map tx)) ∧ H' F = some (.lst ((l0 :: ls).map tx)) ∧ (ls.length ≤ 1000 ∧ ∀ l ∈ l0 :: ls, l.length ≤ 1000) ∧ ∀ r, M13.BestW r (l0 :: ls) → M13.CW (a.drop (a.length - 1 - i)) (b.drop (b.length - 1 - j)) r) (fun N hN => ?_) (fun σ' H6 p => ?_)
        · refine ⟨_, rfl, _, rfl, b, b.length - 1 - j, b[b.length - 1 - j], rfl, rfl, zb, List.getElem?_eq_getElem hq, ?_⟩
          refine ⟨_, rfl, _, rfl, a, a.length - 1 - i, a[a.length - 1 - i], rfl, rfl, za, List.getElem?_eq_getElem hk, ?_⟩
          refine ⟨rfl, _, rfl, ?_⟩
          refine ite2 (fun e => ?_) (fun e => ?_)
          · have heq : a[a.length - 1 - i] = b[b.length - 1 - j] := by simpa using (tx_inj (of_decide_eq_true e)).symm
            refine ⟨_, rfl, _, rfl, a, a.length - 1 - i, a[a.length - 1 - i], rfl, rfl, za, List.getElem?_eq_getElem hk, _, rfl, _, rfl, _, _, rfl, rfl, D, _, ((b.length - 1 - j + 1 : Nat) : Int), _, rfl, congrArg V.int hq1, .inl (.inl hD4), atI_nat (at_tx (by omega)), [a[a.length - 1 - i]], _, rfl, rfl, by rw [sizeLine_eq]; show 1 + (L.getD (b.length - 1 - j + 1) []).length ≤ _; omega, ?_⟩
            refine ⟨by show 1 ≤ sizeLine; decide, fun F nF => ?_⟩
            refine hN _ _ ⟨F, a[a.length - 1 - i] :: L.getD (b.length - 1 - j + 1) [], [], rfl, same_up sm4 (sm4.free nF), (upd_ne (ne_of_none hD4 nF)).trans hD4, (upd_ne (ne_of_none hE4 nF)).trans hE4, upd_same, ⟨by simp, ?_⟩, fun r hr => ?_⟩
            · intro l hl
              simp only [List.mem_cons, List.not_mem_nil, or_false] at hl
              rw [hl]
              simp only [List.length_cons]; omega
            · rw [List.mem_singleton.mp hr.1]
              exact cw_eq hk hq heq c3
          · have hne : a[a.length - 1 - i] ≠ b[b.length - 1 - j] := fun z => e (decide_eq_true (by rw [z]))
            refine ⟨_, rfl, _, rfl, a, a.length - 1 - i, a[a.length - 1 - i], rfl, rfl, za, List.getElem?_eq_getElem hk, _, rfl, _, rfl, D, _, _, _, rfl, rfl, .inl (.inl hD4), atI_nat (at_tx (by omega)), [a[a.length - 1 - i]], _, rfl, rfl, by rw [sizeLine_eq]; show 1 + (L.getD (b.length - 1 - j) []).length ≤ _; omega, ?_⟩
            refine ⟨_, rfl, _, rfl, b, b.length - 1 - j, b[b.length - 1 - j], rfl, rfl, zb, List.getElem?_eq_getElem hq, _, rfl, E, _, ((0 : Nat) : Int), _, rfl, rfl, .inl (.inl hE4), atI_nat (at_tx (by omega)), [b[b.length - 1 - j]], _, rfl, rfl, by rw [sizeLine_eq]; show 1 + (R.getD 0 []).length ≤ _; omega, ?_⟩
            refine ⟨by show 2 ≤ sizeLine; decide, fun F nF => ?_⟩
            refine hN _ _ ⟨F, a[a.length - 1 - i] :: L.getD (b.length - 1 - j) [], [b[b.length - 1 - j] :: R.getD 0 []], rfl, same_up sm4 (sm4.free nF), (upd_ne (ne_of_none hD4 nF)).trans hD4, (upd_ne (ne_of_none hE4 nF)).trans hE4, upd_same, ⟨by simp, ?_⟩, fun r hr => cw_ne hk hq hne c2 c1 hr⟩
            intro l hl
            simp only [List.mem_cons, List.not_mem_nil, or_false] at hl
            rcases hl with rfl | rfl
            · simp only [List.length_cons]; omega
            · simp only [List.length_cons]; omega
        · obtain ⟨F, l0, ls, rfl, sm6, hD6, hE6, hF, hls, hbest⟩ := p
          refine ⟨_, rfl, .inl ⟨rfl, _, .inl (.inl hE6)⟩, _, rfl, F, l0, ls, 1, rfl, .inl rfl, .inl (.inl hF), hls.1, hls.2, fun H7 m s7 hm => ?_⟩
          have hE7 := s7 _ _ hE6
          refine ⟨E, _, 0, _, rfl, rfl, hE7, by rw [List.length_map, sizeLine_eq]; omega, by decide, by decide, ?_⟩
          refine ⟨_, _, m :: R, rfl, same_up (sm6.trans s7) nE0, (upd_ne nDE).trans (s7 _ _ hD6), by rw [upd_same]; rfl, by simp; omega, fun n hn => ?_⟩
          cases n with
          | zero =>
            rw [Nat.add_zero, show b.length - (j + 1) = b.length - 1 - j by omega]
            exact hbest m (bestY_W hm)
          | succ n =>
            rw [show b.length - (j + 1) + (n + 1) = b.length - j + n by omega]
            exact hR n (by omega)
      · obtain ⟨y3, y6, R, rfl, sm4, hD4, hE4, hRl, hR⟩ := p
        refine ⟨_, rfl, _, _, _, _, E, R, rfl, sm4, nE0, hE4, hRl, fun j hj => ?_⟩
        have := hR j hj
        rw [Nat.sub_self, Nat.zero_add] at this
        rw [show a.length - (i + 1) = a.length - 1 - i by omega]
        exact this
    · obtain ⟨y3, y4, y5, y6, D, L, rfl, sm, nD, hD, hL, hcp⟩ := p
      refine ⟨_, rfl, D, _, ((0 : Nat) : Int), _, rfl, rfl, .inl (.inl hD), atI_nat (at_tx (by omega)), ?_⟩
      have := hcp 0 (Nat.zero_le _)
      rw [Nat.sub_self, List.drop_zero, List.drop_zero] at this
      exact q _ _ sm this
end
end Lw
namespace Lw
open PySem PySem.Spec PyProof.Rows L2 L3
def keyNeg : KF := fun l => (-(l.length : Int), l)
theorem val_kvs (ls : List (List Nat)) (l : List Nat) : (valV (kvsOf ls) (tk l)).isSome = decide (l ∈ ls) := by
  rw [← valV_any]
  unfold kvsOf
  rw [List.any_map]
  by_cases h : l ∈ ls
  · rw [decide_eq_true h, List.any_eq_true]
    exact ⟨l, h, decide_eq_true rfl⟩
  · rw [decide_eq_false h, List.any_eq_false]
    exact fun x hx e => h (by rw [← tk_inj (of_decide_eq_true e)]; exact hx)
theorem kvs_len (ls : List (List Nat)) : (kvsOf ls).length = ls.length := by unfold kvsOf; rw [List.length_map]
theorem kvs_at {ls : List (List Nat)} {i : Nat} {k : Key} {v : V} (h : (kvsOf ls)[i]? = some (k, v)) : ∃ l, ls[i]? = some l ∧ k = tk l := by
  unfold kvsOf at h
  rw [List.getElem?_map] at h
  obtain ⟨l, h1, h2⟩ := Option.map_eq_some_iff.mp h
  cases h2
  exact ⟨l, h1, rfl⟩
theorem cp_of_sort {a b m : List Nat} (h : m ∈ (M11.subs a).filter fun l => decide (l ∈ M11.subs b)) (hm : ∀ y ∈ (M11.subs a).filter fun l => decide (l ∈ M11.subs b), ¬ kLt (keyNeg y) (keyNeg m)) : M13.CP a b m := by
  have mem : ∀ s : List Nat, s ∈ ((M11.subs a).filter fun l => decide (l ∈ M11.subs b)) ↔ s.Sublist a ∧ s.Sublist b := fun s => by
    rw [List.mem_filter, M11.mem_subs, decide_eq_true_iff, M11.mem_subs]
  obtain ⟨h1, h2⟩ := (mem m).mp h
  refine ⟨h1, h2, fun s s1 s2 => ?_⟩
  have hk := hm s ((mem s).mpr ⟨s1, s2⟩)
  by_cases e : s.length = m.length
  · exact .inr ⟨e, fun z => hk (.inr ⟨by show -(s.length : Int) = -(m.length : Int); omega, z⟩)⟩
  · refine .inl ?_
    have : ¬ (-(s.length : Int)) < (-(m.length : Int)) := fun z => hk (.inl z)
    omega
section
variable {P : Program} {w : World} {K : PySem.W.Frag} {mg : Str → Option Value} {base : Heap}
/-! ### _law_parts -/
def spLawParts : Sp := fun vs H Q _ => ∃ t : List Nat, vs = [tx t] ∧ t.length ≤ 10 ∧ ∀ H' d, Same H H' → H d = none → H' d = some (.dK (kvsOf (M11.subs t))) → Q (.ref d) H'
theorem ok_law_parts (T : All K mg) : FnOk P w K mg base CX0 1 T.f_law_parts T.d_law_parts ["_law_text_here"] spLawParts := by
  refine T.law_parts.F.ok sc_law_parts (fun vs H Q E h => ?_) (fun cdv A outer s H vs Q E hr h => ?_)
  · obtain ⟨t, rfl, _⟩ := h
    rfl
  · obtain ⟨t, rfl, ht, q⟩ := h
    have hu := hu_of hr
    refine ⟨_, pss_cons (ps_set (i := 1) sc_law_parts.nd rfl (by first | exact Or.inl rfl | exact Or.inr rfl) (pe_disp (pps_cons pe_str pe_bl pps_nil) (by rfl) (by rfl) (fun z => by cases z) (by decide)))
      (pss_cons (ps_for PassesOwn.never rfl (pi_str (pv 0)) (pg_name (i := 2) sc_law_parts.nd rfl (by first | exact Or.inl rfl | exact Or.inr rfl))
        (pss_one (ps_for PassesOwn.never rfl (pi_list (pe_callTy (call_list_dK rfl) (by rfl) T.b_list PyProof.Rows.boot_list (pa_cons (pv 1) pa_nil))) (pg_name (i := 3) sc_law_parts.nd rfl (by first | exact Or.inl rfl | exact Or.inr rfl))
        (pss_one (ps_dput hu (pv 1) (pe_op op_addT (pv 3) (pv 2)) pe_bl rfl)))))
      (pss_one (ps_ret (pv 1)))), ?_⟩
    intro d nd
    refine ⟨upd_same, [(tk [], .bl true)], rfl, by decide, ?_⟩
    rw [upd_upd, merge1]
    refine ⟨tx t, rfl, tS t, rfl, for_it walk_tx (fun i σ H' => ∃ y3 y4, σ = [some (tx t), some (.ref d), y3, y4] ∧ Same H H' ∧ H' d = some (.dK (kvsOf (M11.subs (t.take i)))))
      ⟨none, none, rfl, same_upd nd, ?_⟩ (fun _ _ _ _ _ => trivial) (fun i x σ H2 H3 hi p y => ?_) (fun σ H' p => ?_)⟩
    · rw [upd_same, List.take_zero]
    · obtain ⟨y3, y4, rfl, sm, hd⟩ := p
      obtain ⟨rfl, ch, hc, rfl⟩ := y
      refine ⟨.ref d, rfl, d, _, rfl, hd, fun e ne => ?_⟩
      have ne0 : H e = none := sm.free ne
      have nde : d ≠ e := ne_of_none hd ne
      refine ⟨e, rfl, ⟨_, .inl (.inl upd_same)⟩, ?_⟩
      rw [kvs_kV]
      refine for_list (xs := (M11.subs (t.take i)).map tx) (fun j σ H' => ∃ y4, σ = [some (tx t), some (.ref d), some (tx [ch]), y4] ∧ Same H H' ∧ H' e = some (.lst ((M11.subs (t.take i)).map tx)) ∧ H' d = some (.dK (kvsOf (stepJ (M11.subs (t.take i)) ch j))))
        ⟨y4, rfl, same_up sm ne0, upd_same, by rw [upd_ne nde]; exact hd⟩ (fun j σ H' _ p => p.elim fun _ p => .inl (.inl p.2.2.1)) (fun j x σ H' hx p => ?_) (fun σ H' p => ?_)
      · obtain ⟨y5, rfl, sm', he, hd'⟩ := p
        rw [List.getElem?_map] at hx
        obtain ⟨l, hl, rfl⟩ := Option.map_eq_some_iff.mp hx
        have hlm := List.mem_of_getElem? hl
        have hshort := subs_short hlm
        have hi10 : i < 10 := Nat.lt_of_lt_of_le hi ht
        refine ⟨_, rfl, _, rfl, _, rfl, l, [ch], rfl, rfl, by rw [sizeLine_eq]; simp; omega, d, _, rfl, DPut.k (k := tk (l ++ [ch])) hd' ?_, ?_⟩
        · have h1 := stepJ_len (M11.subs (t.take i)) ch j
          have h2 := subs_small ht i
          unfold kvsOf
          rw [List.length_map, sizeLine_eq]
          omega
        · refine ⟨_, rfl, same_up sm' nd, by rw [upd_ne nde.symm]; exact he, ?_⟩
          rw [upd_same, kvs_put, stepJ_succ hl]
      · obtain ⟨y5, rfl, sm', he, hd'⟩ := p
        refine ⟨_, _, rfl, sm', ?_⟩
        rw [hd', List.length_map, stepJ_all, subs_take hc]
    · obtain ⟨y3, y4, rfl, sm, hd⟩ := p
      rw [List.take_of_length_le (Nat.le_refl _)] at hd
      exact ⟨_, rfl, q _ d sm nd hd⟩
/-! ### _law_common -/
def lamQ : Str := ("_law_common" ++ ".<locals>." : Str) ++ "<lambda>"
abbrev TT (Pt : Addr) : List (Addr × Str) := [(Pt, lamQ)]
def spLawCommon (Pt : Addr) : Sp := fun vs H Q _ => ∃ a b : List Nat, vs = [tx a, tx b] ∧ a.length ≤ 10 ∧ b.length ≤ 10 ∧ LamX.Tabs (TT Pt) H ∧ ∀ H' t, LamX.ExtN H H' → LamX.Tabs (TT Pt) H' → M13.CP a b t → Q (tx t) H'
theorem ok_law_common (T : All K mg) {c Pt : Addr} (hcd : T.d_law_common.code = .ref c) (TB : LamX.TabB base mg c Pt) : FnOkG P w K mg base CX0 6 T.f_law_common T.d_law_common ["_law_one", "_law_other"] (spLawCommon Pt) := by
  refine okC T.law_common.F sc_law_common (fun vs H Q E h => ?_) (fun A outer s H vs Q E hr hG h => ?_)
  · obtain ⟨a, b, rfl, _⟩ := h
    rfl
  · obtain ⟨a, b, rfl, hal, hbl, hT, q⟩ := h
    have hu := hu_of hr
    refine ⟨_, pss_cons (ps_set (i := 2) sc_law_common.nd rfl (by first | exact Or.inl rfl | exact Or.inr rfl) (pe_call (ok_law_parts T) (hr.mono (by decide)) (by rfl) T.law_parts.g T.law_parts.F.kp T.law_parts.b .nil pass0 (pa_cons (pv 1) pa_nil)))
      (pss_one (ps_ret (pe_ix ix_list (pe_sortLam (T := TT Pt) (kf := keyNeg) (k := 0) (N := ["_law_text_here"]) (y := "_law_text_here") rfl (by rfl) T.b_sorted PyProof.Rows.boot_sorted (pe_lc (own := [("_law_text_here", 3)]) (g := gName 3) rfl sc_law_common.nd (pi_keysN (pe_call (ok_law_parts T) (hr.mono (by decide)) (by rfl) T.law_parts.g T.law_parts.F.kp T.law_parts.b .nil pass0 (pa_cons (pv 0) pa_nil)))
          (blkOk_by (own := [("_law_text_here", 3)]) (N := ["_law_one", "_law_other", "_law_yours", "_law_text_here"]) (sc := defScope s_law_common) (by decide +kernel))
          (fun _ _ _ _ _ => pg_name (i := 3) sc_law_common.nd rfl (Or.inl rfl)) (fun _ _ _ _ _ => (pts_one (pt_cmp (pc_din hu (pv 3) (pv 2)))))
          (fun _ _ _ _ _ => (pv 3))) TB hcd (by exact List.mem_singleton.mpr rfl) (by intro p hp _; rw [List.mem_singleton.mp hp]; rfl) (hr.mono (by decide))
        (by exact ⟨rfl, rfl, rfl, by decide +kernel, rfl, by decide +kernel, by decide +kernel⟩) (by rfl) (by rfl) (by decide +kernel) (fun _ _ _ _ _ => rfl)
        (fun _ _ _ _ _ _ _ => (pe_tup (pa_cons (pe_un un_neg (pe_callB call_lenT (by rfl) T.b_len PySem.boot_len (pa_cons (pv 0) pa_nil))) (pa_cons (pv 0) pa_nil))))
        (fun l H hl => ⟨_, rfl, l, rfl, hl, _, rfl, _, rfl, by show 2 ≤ sizeLine; decide, fun p np => ⟨same_upd np, p, rfl, upd_same⟩⟩)) pe_int (fun _ _ => rfl)))), ?_⟩
    refine ⟨_, rfl, b, rfl, hbl, fun H1 d1 s1 n1 e1 => ?_⟩
    refine ⟨_, rfl, a, rfl, hal, fun H2 d2 s2 n2 e2 => ?_⟩
    have sm2 : Same H H2 := s1.trans s2
    have nd2 : H d2 = none := s1.free n2
    have nd12 : d1 ≠ d2 := ne_of_none e1 n2
    refine ⟨d2, _, rfl, e2, fun o2 => fun D nD => ?_⟩
    have sm3 := fun o => same_up (o := o) sm2 nd2
    have nD0 : H D = none := (sm3 _).free nD
    have nd1D : d1 ≠ D := fun z => by rw [← z, upd_ne nd12, s2 _ _ e1] at nD; cases nD
    have nd2D : d2 ≠ D := fun z => by rw [← z, upd_same] at nD; cases nD
    refine lc_gen (walk_keys (kvs := kvsOf (M11.subs a))) (fun H' => Same H H' ∧ H' d1 = some (.dK (kvsOf (M11.subs b))) ∧ H' d2 = some (.frz o2 (.dK (kvsOf (M11.subs a))))) (fun i acc => acc = (((M11.subs a).take i).filter fun l => decide (l ∈ M11.subs b)).map tx) ?_ (fun i acc e => by rw [e, List.length_map]; exact Nat.le_trans (List.length_filter_le _ _) (by rw [List.length_take]; omega)) rfl
      ⟨same_up (sm3 _) nD0, by rw [upd_ne nd1D, upd_ne nd12]; exact s2 _ _ e1, by rw [upd_ne nd2D]; exact upd_same⟩ (fun H' x h => ⟨same_up h.1 nD0, by rw [upd_ne nd1D]; exact h.2.1, by rw [upd_ne nd2D]; exact h.2.2⟩) (fun _ h => h.2.2) (fun i x H3 H4 acc C N hi r hD hacc y c n => ?_) (fun H3 xs r hD hacc => ?_)
    · rw [kvs_len, sizeLine_eq]
      have := Nat.le_trans (M11.subs_len_le a) (Nat.pow_le_pow_right (by decide) hal)
      omega
    · obtain ⟨rfl, k, v, hk, rfl⟩ := y
      obtain ⟨l, hl, rfl⟩ := kvs_at hk
      have ek : (M11.subs a).take (i + 1) = (M11.subs a).take i ++ [l] := by rw [List.take_add_one, hl]; rfl
      refine ⟨rfl, _, rfl, _, rfl, d1, _, rfl, DGet.k (k := tk l) r.2.1, _, rfl, ?_⟩
      rw [val_kvs]
      by_cases e : l ∈ M11.subs b
      · rw [decide_eq_true e]
        refine iteT ⟨_, rfl, c _ _ r hD ?_⟩
        rw [hacc, ek, List.filter_append, List.map_append]
        simp [e]
        rfl
      · rw [decide_eq_false e]
        refine iteF (n _ r hD ?_)
        rw [hacc, ek, List.filter_append, List.map_append]
        simp [e]
    · subst hacc
      rw [kvs_len, List.take_length] at hD
      refine ⟨D, _, rfl, .inr hD, fun l hl => ?_, hT.ext r.1, fun H5 p5 x5 t5 f5 e5 => ?_⟩
      · have := ((M11.mem_subs _ _).mp (List.mem_filter.mp hl).1).length_le
        rw [sizeLine_eq]
        omega
      · have hne : 0 < (sortT keyNeg ((M11.subs a).filter fun l => decide (l ∈ M11.subs b))).length := by
          rw [(sortT_perm _ _).length_eq]
          exact List.length_pos_of_mem (List.mem_filter.mpr ⟨(M11.mem_subs a []).mpr (List.nil_sublist _), decide_eq_true ((M11.mem_subs b []).mpr (List.nil_sublist _))⟩)
        obtain ⟨m, hm⟩ : ∃ m, (sortT keyNeg ((M11.subs a).filter fun l => decide (l ∈ M11.subs b)))[0]? = some m := ⟨_, List.getElem?_eq_getElem hne⟩
        refine ⟨p5, _, ((0 : Nat) : Int), tx m, rfl, rfl, .inl (.inl e5), atI_nat (by rw [List.getElem?_map, hm]; rfl), ?_⟩
        obtain ⟨h1, h2⟩ := sortT_head hm
        exact q _ m ((LamX.ExtN.of r.1).trans x5) t5 (cp_of_sort h1 h2)
/-! ### _law_bent -/
def spBent : Sp := fun vs H Q _ => ∃ (a : Addr) (sg t : List Nat), vs = [.ref a, tx sg, tx t] ∧ Pot H a ∧ sg ≠ [] ∧ sg.length ≤ 1000 ∧ t.length ≤ 900 ∧
  ∀ (H' : Hp) (t' : List Nat), t'.length ≤ t.length + 1 → (∀ c ∈ t', c ∈ t ∨ c ∈ sg) → Pot H' a → Off a H H' → Q (tx t') H'
theorem ok_law_bent (T : All K mg) : FnOk P w K mg base CX0 3 T.f_law_bent T.d_law_bent ["_law_pot_here", "_law_signs", "_law_text_here"] spBent := by
  refine T.law_bent.F.ok sc_law_bent (fun vs H Q E h => ?_) (fun cdv A outer s H vs Q E hr h => ?_)
  · obtain ⟨a, sg, t, rfl, _⟩ := h
    rfl
  · obtain ⟨a, sg, t, rfl, hp, hs, hs2, ht, q⟩ := h
    refine ⟨_, pss_cons (ps_par rfl sc_law_bent.nd (i := 3) (j := 4) rfl rfl (by decide) rfl rfl (pa_cons (pe_call (ok_law_draw T) (hr.mono (by decide)) (by rfl) T.law_draw.g T.law_draw.F.kp T.law_draw.b .nil pass0 (pa_cons (pv 0) (pa_cons (pe_op op_add (pe_callB call_lenT (by rfl) T.b_len PySem.boot_len (pa_cons (pv 2) pa_nil)) pe_int) pa_nil))) (pa_cons (pe_call (ok_law_pick T) (hr.mono (by decide)) (by rfl) T.law_pick.g T.law_pick.F.kp T.law_pick.b .nil pass0 (pa_cons (pv 0) (pa_cons (pv 1) pa_nil))) pa_nil)) (by rfl))
      (pss_one (ps_ret (pe_call (ok_law_pick T) (hr.mono (by decide)) (by rfl) T.law_pick.g T.law_pick.F.kp T.law_pick.b .nil pass0 (pa_cons (pv 0) (pa_cons (pe_lst (pa_cons (pe_op op_addT (pe_slice sl_tx (pv 2) po_none (po_some (pv 3))) (pe_slice sl_tx (pv 2) (po_some (pe_op op_add (pv 3) pe_int)) po_none)) (pa_cons (pe_op op_addT (pe_op op_addT (pe_slice sl_tx (pv 2) po_none (po_some (pv 3))) (pv 4)) (pe_slice sl_tx (pv 2) (po_some (pv 3)) po_none)) (pa_cons (pe_op op_addT (pe_slice sl_tx (pv 2) (po_some (pv 3)) po_none) (pe_slice sl_tx (pv 2) po_none (po_some (pv 3)))) (pa_cons (pe_step (k := -1) (pv 2) (pe_un un_neg pe_int) (fun σ H Q h => ⟨1, rfl, h⟩) rfl rfl) pa_nil))))) pa_nil))))), ?_⟩
    have hz : t.length ≤ sizeLine := by rw [sizeLine_eq]; omega
    refine ⟨_, rfl, _, rfl, t, rfl, hz, _, _, rfl, rfl, a, t.length + 1, rfl, hp, by omega, by omega, fun H1 d hd hp1 ho1 => ?_⟩
    refine ⟨_, rfl, _, rfl, a, _, rfl, hp1, .inl ⟨sg, rfl, hs, hs2, fun H2 ch hch hp2 ho2 => ?_⟩⟩
    refine ⟨_, _, rfl, ?_⟩
    have hpre : ∀ k, (t.take k).length ≤ t.length := fun k => by rw [List.length_take]; omega
    have hsuf : ∀ k, (t.drop k).length ≤ t.length := fun k => by rw [List.length_drop]; omega
    have z1 := hpre d
    have z2 := hsuf d
    have z3 := hsuf (d + 1)
    have zc : ([ch] : List Nat).length = 1 := rfl
    have hd1 : (d : Int) + 1 = ((d + 1 : Nat) : Int) := by omega
    refine ⟨.ref a, rfl, ?_⟩
    refine ⟨tx t, rfl, _, rfl, _, rfl, t, rfl, hz, .inl ⟨rfl, d, rfl, tx t, rfl, _, rfl, _, _, rfl, rfl, _, rfl, t, rfl, hz, .inr ⟨rfl, d + 1, by rw [← hd1], _, _, rfl, rfl, by rw [sizeLine_eq]; omega, ?_⟩⟩⟩
    refine ⟨tx t, rfl, _, rfl, _, rfl, t, rfl, hz, .inl ⟨rfl, d, rfl, tx [ch], rfl, _, _, rfl, rfl, by rw [sizeLine_eq]; omega, tx t, rfl, _, rfl, _, rfl, t, rfl, hz, .inr ⟨rfl, d, rfl, _, _, rfl, rfl, by rw [sizeLine_eq, List.length_append]; omega, ?_⟩⟩⟩
    refine ⟨tx t, rfl, _, rfl, _, rfl, t, rfl, hz, .inr ⟨rfl, d, rfl, tx t, rfl, _, rfl, _, rfl, t, rfl, hz, .inl ⟨rfl, d, rfl, _, _, rfl, rfl, by rw [sizeLine_eq]; omega, ?_⟩⟩⟩
    refine ⟨_, rfl, t, rfl, hz, by rw [stepL_rev, List.length_reverse]; exact hz, ?_⟩
    rw [stepL_rev]
    refine ⟨by show 4 ≤ sizeLine; decide, fun p np => ?_⟩
    refine ⟨a, _, rfl, hp2.up (hp2.ne np), .inr ⟨p, _, rfl, (hp2.ne np).symm, .inl (.inl upd_same), by simp, by show 4 ≤ 1000; decide, fun H3 v hv hp3 ho3 => ?_⟩⟩
    have hoff : Off a H H3 := ((ho1.trans ho2).trans (Off.of (same_upd np))).trans ho3
    have e1 : (t.take d).length + (t.drop d).length = t.length := by rw [List.length_take, List.length_drop]; omega
    have e2 : (t.take d).length + (t.drop (d + 1)).length ≤ t.length := by rw [List.length_take, List.length_drop]; omega
    have m1 : ∀ c ∈ t.take d, c ∈ t := fun c hc => List.mem_of_mem_take hc
    have m2 : ∀ k, ∀ c ∈ t.drop k, c ∈ t := fun k c hc => List.mem_of_mem_drop hc
    simp only [List.mem_cons, List.not_mem_nil, or_false] at hv
    rcases hv with rfl | rfl | rfl | rfl
    · refine q _ _ (by rw [List.length_append]; omega) (fun c hc => ?_) hp3 hoff
      rcases List.mem_append.mp hc with hc | hc
      · exact .inl (m1 c hc)
      · exact .inl (m2 _ c hc)
    · refine q _ _ (by rw [List.length_append, List.length_append]; omega) (fun c hc => ?_) hp3 hoff
      rcases List.mem_append.mp hc with hc | hc
      · rcases List.mem_append.mp hc with hc | hc
        · exact .inl (m1 c hc)
        · rw [List.mem_singleton.mp hc]; exact .inr hch
      · exact .inl (m2 _ c hc)
    · refine q _ _ (by rw [List.length_append]; omega) (fun c hc => ?_) hp3 hoff
      rcases List.mem_append.mp hc with hc | hc
      · exact .inl (m2 _ c hc)
      · exact .inl (m1 c hc)
    · exact q _ _ (by rw [List.length_reverse]; omega) (fun c hc => .inl (List.mem_reverse.mp hc)) hp3 hoff
end
end Lw
namespace L3
open PySem PySem.Spec PyProof.Rows L2
theorem eqv_txs : ∀ ls : List (List Nat), PyData.eqvAll (dTx ls) (dTx ls) = true
  | [] => rfl
  | l :: ls => by
    show (PyData.eqv (.str (tS l)) (.str (tS l)) && PyData.eqvAll (dTx ls) (dTx ls)) = true
    rw [eqv_txs ls, Bool.and_true]
    show (tS l == tS l) = true
    simp
theorem lay_txs : ∀ ls : List (List Nat), (∀ l ∈ ls, ∀ c ∈ l, c < 55296) → PyData.canLayAll0 (dTx ls) = true
  | [], _ => rfl
  | l :: ls, h => by
    show (PyData.strOk (tS l) && PyData.canLayAll0 (dTx ls)) = true
    rw [lay_txs ls fun l' hl => h l' (List.mem_cons_of_mem _ hl), Bool.and_true]
    unfold PyData.strOk
    show (l.toArray.all fun x => decide (x < 1114112)) = true
    rw [List.all_toArray, List.all_eq_true]
    intro c hc
    have := h l List.mem_cons_self c hc
    exact decide_eq_true (by omega)
theorem shaped_tupT {ls : List (List Nat)} (h : ∀ l ∈ ls, ∀ c ∈ l, c < 55296) : SeqAt.shaped (.tuple (dTx ls)) = true := by
  unfold SeqAt.shaped
  rw [Bool.and_eq_true]
  refine ⟨?_, decide_eq_true ?_⟩
  · simp only [PyData.canLay0]; exact lay_txs ls h
  · simp only [PyData.depth, depthAll_txs]; decide
theorem shaped_lstT {ls : List (List Nat)} (h : ∀ l ∈ ls, ∀ c ∈ l, c < 55296) : SeqAt.shaped (.list (dTx ls)) = true := by
  unfold SeqAt.shaped
  rw [Bool.and_eq_true]
  refine ⟨?_, decide_eq_true ?_⟩
  · simp only [PyData.canLay0]; exact lay_txs ls h
  · simp only [PyData.depth, depthAll_txs]; decide
theorem eqv_tupT (ls : List (List Nat)) : PyData.eqv (.tuple (dTx ls)) (.tuple (dTx ls)) = true := by
  simp only [PyData.eqv]; exact eqv_txs ls
end L3
namespace Lw
open PySem PySem.Spec PyProof.Rows L2 L3
theorem small_cp {a b t : List Nat} (ha : Small a) (h : M13.CP a b t) : Small t := ha.sub h.l
theorem cw_mem {a b t : List Nat} (h : M13.CW a b t) : ∀ c ∈ t, c ∈ a ∨ c ∈ b := by
  intro c hc
  by_cases hab : c ∈ a ∨ c ∈ b
  · exact hab
  · exfalso
    have h1 : a.Sublist (t.filter fun x => decide (x ≠ c)) := by
      have := h.l.filter fun x => decide (x ≠ c)
      rw [show (a.filter fun x => decide (x ≠ c)) = a from List.filter_eq_self.mpr fun x hx => decide_eq_true (fun z : x = c => hab (.inl (z ▸ hx)))] at this
      exact this
    have h2 : b.Sublist (t.filter fun x => decide (x ≠ c)) := by
      have := h.r.filter fun x => decide (x ≠ c)
      rw [show (b.filter fun x => decide (x ≠ c)) = b from List.filter_eq_self.mpr fun x hx => decide_eq_true (fun z : x = c => hab (.inr (z ▸ hx)))] at this
      exact this
    have h3 := M13.leW_len (h.m _ h1 h2)
    have h4 : (t.filter fun x => decide (x ≠ c)).length < t.length := by
      rcases Nat.lt_or_ge (t.filter fun x => decide (x ≠ c)).length t.length with h | h
      · exact h
      · have e := (List.filter_sublist (p := fun x => decide (x ≠ c)) (l := t)).eq_of_length_le h
        have := (List.filter_eq_self.mp e) c hc
        simp at this
    omega
theorem small_cw {a b t : List Nat} (ha : Small a) (hb : Small b) (hal : a.length ≤ 60) (hbl : b.length ≤ 60) (h : M13.CW a b t) : Small t := ⟨fun c hc => (cw_mem h c hc).elim (ha.1 c) (hb.1 c), by
  have := cw_len (n := 120) h (by omega)
  omega⟩
theorem shw3 {t : List Nat} (h : Small t) : Shw (.list (dTx [t, t, t])) := by
  refine shw_txs (B := 1000) (n := 3) (fun l hl c hc => ?_) (fun l hl => ?_) (by simp) (by decide)
  · have e : l = t := by simpa using hl
    rw [e] at hc
    have := h.1 c hc
    omega
  · have e : l = t := by simpa using hl
    rw [e]
    exact h.2
section
variable {P : Program} {w : World} {K : PySem.W.Frag} {mg : Str → Option Value} {base : Heap}
/-! ### _law_told_right -/
def spTold : Sp := fun vs H Q _ => ∃ a b, vs = [tx a, tx b] ∧ Small a ∧ Small b ∧ a.length ≤ 60 ∧ b.length ≤ 60 ∧ ∀ H', Same H H' → Q (.bl true) H'
theorem ok_law_told (T : All K mg) : FnOkG P w K mg base CX0 4 T.f_law_told_right T.d_law_told_right ["_law_one", "_law_other"] spTold := by
  refine okG T.law_told_right.F sc_law_told_right (fun vs H Q E h => ?_) (fun cdv A outer s H vs Q E hr hG h => ?_)
  · obtain ⟨a, b, rfl, _⟩ := h
    rfl
  · obtain ⟨a, b, rfl, ha, hb, hal, hbl, q⟩ := h
    have hu64 : (A.deeper (envOfC "_law_told_right" (defScope s_law_told_right) s.heap.objs.size T.f_law_told_right cdv)).units + 64 < cLine := by have := hr.units; omega
    refine ⟨_, pss_cons (ps_asg (pe_tup (pa_cons (pe_call (ok_law_part_table T) (hr.mono (by decide)) (by rfl) T.law_part_table.g T.law_part_table.F.kp T.law_part_table.b .nil pass0 (pa_cons (pv 0) (pa_cons (pv 1) pa_nil))) (pa_cons (pe_call (ok_law_whole_table T) (hr.mono (by decide)) (by rfl) T.law_whole_table.g T.law_whole_table.F.kp T.law_whole_table.b .nil pass0 (pa_cons (pv 0) (pa_cons (pv 1) pa_nil))) pa_nil))) (pg_tup rfl (pgs_cons (pg_name (i := 2) sc_law_told_right.nd rfl (by first | exact Or.inl rfl | exact Or.inr rfl)) (pgs_cons (pg_name (i := 3) sc_law_told_right.nd rfl (by first | exact Or.inl rfl | exact Or.inr rfl)) pgs_nil))))
      (pss_cons (ps_for PassesOwn.never rfl (pi_range1 rfl T.b_range (pa_cons pe_int pa_nil)) (pg_name (i := 4) sc_law_told_right.nd rfl (by first | exact Or.inl rfl | exact Or.inr rfl))
        (pss_cons (ps_set (i := 5) sc_law_told_right.nd rfl (by first | exact Or.inl rfl | exact Or.inr rfl) (pe_lst (pa_cons (pe_call (ok_common_part T) (hr.mono (by decide)) (by rfl) T.common_part.g T.common_part.F.kp T.common_part.b .nil pass0 (pa_cons (pv 0) (pa_cons (pv 1) pa_nil))) (pa_cons (pe_callK0 (FnOkG.of (ok_common_part T)) (hr.mono (by decide)) hG (by rfl) T.common_part.g T.common_part.F.kp (kb2 (n := "one") (m := "other") T.common_part.F (fun _ _ _ _ _ _ _ _ => rfl)) pass0 (pk_cons (pv 1) (pk_cons (pv 0) pk_nil))) (pa_cons (pe_call (ok_common_part T) (hr.mono (by decide)) (by rfl) T.common_part.g T.common_part.F.kp T.common_part.b .nil pass0 (pa_cons (pv 1) (pa_cons (pv 0) pa_nil))) pa_nil)))))
      (pss_cons (ps_if (pt_cmpR op_ne (pe_callB (call_reprD hr hG) (by rfl) T.b_repr (by decide +kernel) (pa_cons (pv 5) pa_nil)) (pe_callB (call_reprD hr hG) (by rfl) T.b_repr (by decide +kernel) (pa_cons (pe_op op_rep (pe_lst (pa_cons (pv 2) pa_nil)) pe_int) pa_nil)) (nomark _)) (pss_one ps_never) pss_nil)
      (pss_cons (ps_set (i := 5) sc_law_told_right.nd rfl (by first | exact Or.inl rfl | exact Or.inr rfl) (pe_lst (pa_cons (pe_call (ok_common_whole T) (hr.mono (by decide)) (by rfl) T.common_whole.g T.common_whole.F.kp T.common_whole.b .nil pass0 (pa_cons (pv 0) (pa_cons (pv 1) pa_nil))) (pa_cons (pe_callK0 (FnOkG.of (ok_common_whole T)) (hr.mono (by decide)) hG (by rfl) T.common_whole.g T.common_whole.F.kp (kb2 (n := "one") (m := "other") T.common_whole.F (fun _ _ _ _ _ _ _ _ => rfl)) pass0 (pk_cons (pv 1) (pk_cons (pv 0) pk_nil))) (pa_cons (pe_call (ok_common_whole T) (hr.mono (by decide)) (by rfl) T.common_whole.g T.common_whole.F.kp T.common_whole.b .nil pass0 (pa_cons (pv 1) (pa_cons (pv 0) pa_nil))) pa_nil)))))
      (pss_one (ps_if (pt_cmpR op_ne (pe_callB (call_reprD hr hG) (by rfl) T.b_repr (by decide +kernel) (pa_cons (pv 5) pa_nil)) (pe_callB (call_reprD hr hG) (by rfl) T.b_repr (by decide +kernel) (pa_cons (pe_op op_rep (pe_lst (pa_cons (pv 3) pa_nil)) pe_int) pa_nil)) (nomark _)) (pss_one ps_never) pss_nil))))))
      (pss_cons (ps_if (pt_not (pt_val (pe_callB (cr_all rfl) (by rfl) T.b_all PyProof.Rows.boot_all (pa_cons (pe_lc (own := [("_law_text_here", 6)]) (g := gName 6) (tt := tYes) rfl sc_law_told_right.nd (pi_tup (pe_tup (pa_cons (pv 0) (pa_cons (pv 1) pa_nil))))
          (blkOk_by (own := [("_law_text_here", 6)]) (N := ["_law_one", "_law_other", "_law_part", "_law_whole", "_law_turn", "_law_told", "_law_text_here"]) (sc := defScope s_law_told_right) (by decide +kernel))
          (fun _ _ _ _ _ => pg_name (i := 6) sc_law_told_right.nd rfl (Or.inl rfl)) (fun _ _ _ _ _ => pts_nil)
          (fun _ _ _ _ _ => (pe_and (pe_call (ok_is_part T) (hr.mono (by decide)) (by rfl) T.is_part.g T.is_part.F.kp T.is_part.b .nil pass0 (pa_cons (pv 2) (pa_cons (pv 6) pa_nil)))
        (pe_one (pe_call (ok_is_part T) (hr.mono (by decide)) (by rfl) T.is_part.g T.is_part.F.kp T.is_part.b .nil pass0 (pa_cons (pv 6) (pa_cons (pv 3) pa_nil))))))) pa_nil)))) (pss_one ps_never) pss_nil)
      (pss_cons (ps_if (PW.pt (pw_and (pt_val (pe_call (ok_is_part T) (hr.mono (by decide)) (by rfl) T.is_part.g T.is_part.F.kp T.is_part.b .nil pass0 (pa_cons (pv 0) (pa_cons (pv 1) pa_nil)))) (pw_and1 (pt_cmpR (op_neD hu64) (pe_tup (pa_cons (pv 2) (pa_cons (pv 3) pa_nil))) (pe_tup (pa_cons (pv 0) (pa_cons (pv 1) pa_nil))) (nomark _))))) (pss_one ps_never) pss_nil)
      (pss_one (ps_ret (pe_cmpR op_eq (pe_op op_add (pe_callB call_lenT (by rfl) T.b_len PySem.boot_len (pa_cons (pv 2) pa_nil)) (pe_callB call_lenT (by rfl) T.b_len PySem.boot_len (pa_cons (pv 3) pa_nil))) (pe_op op_add (pe_callB call_lenT (by rfl) T.b_len PySem.boot_len (pa_cons (pv 0) pa_nil)) (pe_callB call_lenT (by rfl) T.b_len PySem.boot_len (pa_cons (pv 1) pa_nil))) (by rfl))))))), ?_⟩
    refine ⟨_, rfl, _, rfl, a, b, rfl, ha, hb, hal, hbl, fun H1 p s1 hcp => ?_⟩
    refine ⟨_, rfl, _, rfl, a, b, rfl, ha, hb, hal, hbl, fun H2 wh s2 hcw => ?_⟩
    have hp := small_cp ha hcp
    have hwh := small_cw ha hb hal hbl hcw
    refine ⟨by show 2 ≤ sizeLine; decide, fun t0 n0 => ?_⟩
    refine ⟨t0, _, rfl, .inl (.inl upd_same), rfl, _, _, rfl, _, _, rfl, rfl, ?_⟩
    have sm0 := fun o => same_up (o := o) (s1.trans s2) ((s1.trans s2).free n0)
    refine ⟨_, rfl, by decide, by decide, ?_⟩
    refine for_range (lo := 0) (n := 2) (fun i σ H' => ∃ (y4 y5 : Option V), σ = [some (tx a), some (tx b), some (tx p), some (tx wh), y4, y5, none] ∧ Same H H') ⟨none, none, rfl, sm0 _⟩ (fun i σ H3 hi pv => ?_) (fun σ H3 pv => ?_)
    · obtain ⟨y4, y5, rfl, sm⟩ := pv
      have hsp := shw3 hp
      have hsw := shw3 hwh
      refine ⟨_, rfl, _, rfl, a, b, rfl, ha, hb, hal, hbl, fun H4 t1 s4 c1 => ?_⟩
      refine ⟨_, rfl, _, rfl, a, b, rfl, ha, hb, hal, hbl, fun H5 t2 s5 c2 => ?_⟩
      refine ⟨_, rfl, _, rfl, b, a, rfl, hb, ha, hbl, hal, fun H6 t3 s6 c3 => ?_⟩
      obtain rfl := c1.eq hcp
      obtain rfl := c2.eq c1
      obtain rfl := c3.sym.eq c2
      refine ⟨by show 3 ≤ sizeLine; decide, fun m1 n1 => ?_⟩
      refine ⟨_, rfl, _, _, rfl, .lst (.inl (.inl upd_same)) (dp_txs [t3, t3, t3]), hsp.s, hsp.z, hsp.p, ?_⟩
      refine ⟨_, rfl, by show 1 ≤ sizeLine; decide, fun m2 n2 => ?_⟩
      refine ⟨m2, 3, _, rfl, rfl, upd_same, by decide, by decide, by show 3 ≤ sizeLine; decide, fun m3 n3 => ?_⟩
      refine ⟨_, _, rfl, .lst (.inl (.inl upd_same)) (dp_txs [t3, t3, t3]), hsp.s, hsp.z, hsp.p, ?_⟩
      refine ⟨rfl, _, rfl, ?_⟩
      rw [ne_self]
      refine iteF ?_
      have smA := fun o => (((sm.trans s4).trans s5).trans s6).trans (((same_upd n1).trans (same_upd n2)).trans (same_upd (o := o) n3))
      refine ⟨_, rfl, _, rfl, a, b, rfl, ha, hb, hal, hbl, fun H7 t4 s7 c4 => ?_⟩
      refine ⟨_, rfl, _, rfl, a, b, rfl, ha, hb, hal, hbl, fun H8 t5 s8 c5 => ?_⟩
      refine ⟨_, rfl, _, rfl, b, a, rfl, hb, ha, hbl, hal, fun H9 t6 s9 c6 => ?_⟩
      obtain rfl := c4.eq hcw
      obtain rfl := c5.eq c4
      obtain rfl := c6.sym.eq c5
      refine ⟨by show 3 ≤ sizeLine; decide, fun m4 n4 => ?_⟩
      refine ⟨_, rfl, _, _, rfl, .lst (.inl (.inl upd_same)) (dp_txs [t6, t6, t6]), hsw.s, hsw.z, hsw.p, ?_⟩
      refine ⟨_, rfl, by show 1 ≤ sizeLine; decide, fun m5 n5 => ?_⟩
      refine ⟨m5, 3, _, rfl, rfl, upd_same, by decide, by decide, by show 3 ≤ sizeLine; decide, fun m6 n6 => ?_⟩
      refine ⟨_, _, rfl, .lst (.inl (.inl upd_same)) (dp_txs [t6, t6, t6]), hsw.s, hsw.z, hsw.p, ?_⟩
      refine ⟨rfl, _, rfl, ?_⟩
      rw [ne_self]
      refine iteF ⟨_, _, rfl, ?_⟩
      exact ((((smA _).trans s7).trans s8).trans s9).trans (((same_upd n4).trans (same_upd n5)).trans (same_upd n6))
    · obtain ⟨y4, y5, rfl, sm⟩ := pv
      refine ⟨_, rfl, _, rfl, by show 2 ≤ sizeLine; decide, fun tp ntp => ?_⟩
      have ntp0 := sm.free ntp
      refine ⟨tp, rfl, ⟨_, .inl (.inl upd_same)⟩, fun D nD => ?_⟩
      have smt := fun o => same_up (o := o) sm ntp0
      have nD0 := (smt _).free nD
      have ntD : tp ≠ D := fun z => by rw [← z, upd_same] at nD; cases nD
      refine lc_gen (walk_tup (xs := [tx a, tx b])) (fun H' => Same H H' ∧ H' tp = some (.tup [tx a, tx b])) (fun i acc => acc = List.replicate i (.bl true)) (by show 2 ≤ sizeLine; decide) (fun i acc e => by rw [e]; simp) rfl
        ⟨same_up (smt _) nD0, by rw [upd_ne ntD]; exact upd_same⟩ (fun H' x h => ⟨same_up h.1 nD0, by rw [upd_ne ntD]; exact h.2⟩) (fun _ h => .inl (.inl h.2)) (fun i x H4 H5 acc C N hi r hD hacc y c n => ?_) (fun H4 xs r hD hacc => ?_)
      · obtain ⟨rfl, y⟩ := y
        obtain ⟨u, rfl, hu, hpu, huw⟩ : ∃ u, x = tx u ∧ Small u ∧ p.Sublist u ∧ u.Sublist wh := by
          have hm := List.mem_of_getElem? y
          simp only [List.mem_cons, List.not_mem_nil, or_false] at hm
          rcases hm with rfl | rfl
          · exact ⟨a, rfl, ha, hcp.l, hcw.l⟩
          · exact ⟨b, rfl, hb, hcp.r, hcw.r⟩
        refine ⟨rfl, yes_te ?_⟩
        refine ⟨_, rfl, _, rfl, p, u, rfl, hp, hu, fun H6 s6 => ?_⟩
        rw [decide_eq_true hpu]
        refine ⟨true, rfl, iteT ?_⟩
        refine ⟨_, rfl, _, rfl, u, wh, rfl, hu, hwh, fun H7 s7 => ?_⟩
        rw [decide_eq_true huw]
        refine c _ _ ⟨(r.1.trans s6).trans s7, s7 _ _ (s6 _ _ r.2)⟩ (s7 _ _ (s6 _ _ hD)) ?_
        rw [hacc, List.replicate_succ']
      · subst hacc
        refine ⟨D, List.replicate _ true, rfl, .inl (.inl (by rw [hD, List.map_replicate])), ?_⟩
        rw [all_id_rep]
        refine ⟨_, rfl, iteF ?_⟩
        dsimp only [tNext]
        refine seq_to ?_
        refine if_no (Same H) (fun Q hQ => ?_) (fun H5 s5 => ?_)
        · refine ⟨_, rfl, _, rfl, a, b, rfl, ha, hb, fun H5 s5 => ⟨_, rfl, ite2 (fun e => ?_) (fun e => hQ _ (r.1.trans s5))⟩⟩
          have hab := of_decide_eq_true e
          have hsh : ∀ l ∈ [a, b], ∀ c ∈ l, c < 55296 := fun l hl c hc => by
            simp only [List.mem_cons, List.not_mem_nil, or_false] at hl
            rcases hl with rfl | rfl
            · have := ha.1 c hc; omega
            · have := hb.1 c hc; omega
          obtain rfl := (M13.CP.sub hab).eq hcp
          obtain rfl := (M13.CW.sub hab).eq hcw
          refine ⟨_, rfl, _, rfl, by show 2 ≤ sizeLine; decide, fun p1 n1 => ?_⟩
          refine ⟨_, rfl, _, rfl, by show 2 ≤ sizeLine; decide, fun p2 n2 => ?_⟩
          refine ⟨_, _, .tup (.inl (.inl (same_upd n2 _ _ upd_same))) (dp_txs [a, b]), .tup (.inl (.inl upd_same)) (dp_txs [a, b]), shaped_tupT hsh, shaped_tupT hsh, _, rfl, ?_⟩
          rw [eqv_tupT]
          exact hQ _ (((r.1.trans s5).trans (same_upd n1)).trans (same_upd n2))
        · refine ⟨_, rfl, p, rfl, small_len hp, _, rfl, wh, rfl, small_len hwh, _, _, rfl, rfl, _, rfl, a, rfl, small_len ha, _, rfl, b, rfl, small_len hb, _, _, rfl, rfl, rfl, ?_⟩
          have e := M13.len_sum hcp hcw
          rw [decide_eq_true (congrArg V.int (show (p.length : Int) + wh.length = a.length + b.length by omega))]
          exact q _ s5
end
end Lw
namespace Lw
open PySem PySem.Spec PyProof.Rows L2 L3
/-- all but a and the tables stays -/
def OffN (a : Addr) (H H' : Hp) : Prop := ∀ b o, H b = some o → (∀ ps, o ≠ .tbl ps) → b ≠ a → H' b = some o
theorem OffN.trans {a : Addr} {H H1 H2 : Hp} (x : OffN a H H1) (y : OffN a H1 H2) : OffN a H H2 := fun b o e t n => y b o (x b o e t n) t n
theorem OffN.ext {a : Addr} {H H' : Hp} (x : LamX.ExtN H H') : OffN a H H' := fun b o e t _ => x b o e t
theorem OffN.off {a : Addr} {H H' : Hp} (x : Off a H H') : OffN a H H' := fun b o e _ n => x b o e n
theorem OffN.of {a : Addr} {H H' : Hp} (x : Same H H') : OffN a H H' := fun b o e _ _ => x b o e
theorem Pot.ext {a : Addr} {H H' : Hp} (h : Pot H a) (x : LamX.ExtN H H') : Pot H' a := by
  obtain ⟨u, v, e, r⟩ := h
  exact ⟨u, v, x _ _ e (fun ps z => by cases z), r⟩
theorem tabs_off {a : Addr} {Pt : Addr} {H H' : Hp} (t : LamX.Tabs (TT Pt) H) (hp : Pot H a) (o : Off a H H') : LamX.Tabs (TT Pt) H' := by
  obtain ⟨u, v, ea, _⟩ := hp
  intro p hpm
  obtain ⟨ps, h1, h2, h3⟩ := t p hpm
  refine ⟨ps, o _ _ h1 fun z => ?_, h2, fun pos cv hc => ?_⟩
  · rw [z, ea] at h1
    cases h1
  · obtain ⟨c, e1, e2⟩ := h3 pos cv hc
    refine ⟨c, e1, o _ _ e2 fun z => ?_⟩
    rw [z, ea] at e2
    cases e2
theorem tabs_lst {L Pt : Addr} {xs : List V} {H H' : Hp} (t : LamX.Tabs (TT Pt) H) (ea : H L = some (.lst xs)) (o : Off L H H') : LamX.Tabs (TT Pt) H' := by
  intro p hpm
  obtain ⟨ps, h1, h2, h3⟩ := t p hpm
  refine ⟨ps, o _ _ h1 fun z => ?_, h2, fun pos cv hc => ?_⟩
  · rw [z, ea] at h1
    cases h1
  · obtain ⟨c, e1, e2⟩ := h3 pos cv hc
    refine ⟨c, e1, o _ _ e2 fun z => ?_⟩
    rw [z, ea] at e2
    cases e2
structure Rt (Pt a : Addr) (H H' : Hp) : Prop where
  pot : Pot H' a
  off : OffN a H H'
  tabs : LamX.Tabs (TT Pt) H'
theorem Rt.ext {Pt a : Addr} {H H' H2 : Hp} (x : Rt Pt a H H') (e : LamX.ExtN H' H2) (t : LamX.Tabs (TT Pt) H2) : Rt Pt a H H2 := ⟨x.pot.ext e, x.off.trans (.ext e), t⟩
theorem Rt.same {Pt a : Addr} {H H' H2 : Hp} (x : Rt Pt a H H') (e : Same H' H2) : Rt Pt a H H2 := x.ext (.of e) (x.tabs.ext e)
theorem Rt.to {Pt a : Addr} {H H' H2 : Hp} (x : Rt Pt a H H') (p : Pot H2 a) (o : Off a H' H2) : Rt Pt a H H2 := ⟨p, x.off.trans (.off o), tabs_off x.tabs x.pot o⟩
theorem Rt.toN {Pt a : Addr} {H H' H2 : Hp} (x : Rt Pt a H H') (p : Pot H2 a) (o : OffN a H' H2) (t : LamX.Tabs (TT Pt) H2) : Rt Pt a H H2 := ⟨p, x.off.trans o, t⟩
theorem Rt.put {Pt a L : Addr} {xs : List V} {o : HO} {H H' : Hp} (x : Rt Pt a H H') (hL : H' L = some (.lst xs)) (n : H L = none) (na : a ≠ L) : Rt Pt a H (upd H' L o) :=
  ⟨x.pot.up na, fun b u e t nb => by rw [upd_ne (ne_of_none e n)]; exact x.off b u e t nb, tabs_lst x.tabs hL (Off.at (Off.refl _ _))⟩
theorem Rt.free {Pt a L : Addr} {H H' : Hp} (x : Rt Pt a H H') (h : H' L = none) (hn : ∀ ps, H L ≠ some (.tbl ps)) : H L = none := by
  cases q : H L with
  | none => rfl
  | some o =>
    by_cases e : L = a
    · subst e
      exact absurd h x.pot.some
    · have := x.off L o q (fun ps z => hn ps (by rw [q, z])) e
      rw [h] at this
      cases this
theorem Small.app {u v : List Nat} (hu : Small u) (hv : Small v) (h : u.length + v.length ≤ 1000) : Small (u ++ v) := ⟨fun x hx => by
  rcases List.mem_append.mp hx with hx | hx
  · exact hu.1 x hx
  · exact hv.1 x hx, by rw [List.length_append]; exact h⟩
theorem sg_lit {v : V} (h : v ∈ [V.str "a", .str "ab", .str "ba", .str "xyz", .str "abc", .str "cabz"]) : ∃ sg, v = tx sg ∧ sg ≠ [] ∧ Small sg := by
  have sm : ∀ l : List Nat, (l.all fun c => decide (97 ≤ c ∧ c ≤ 122)) = true → l.length ≤ 1000 → Small l := fun l h1 h2 => ⟨fun c hc => by simpa using List.all_eq_true.mp h1 c hc, h2⟩
  simp only [List.mem_cons, List.not_mem_nil, or_false] at h
  rcases h with rfl | rfl | rfl | rfl | rfl | rfl
  · exact ⟨[97], rfl, by decide, sm _ rfl (by decide)⟩
  · exact ⟨[97, 98], rfl, by decide, sm _ rfl (by decide)⟩
  · exact ⟨[98, 97], rfl, by decide, sm _ rfl (by decide)⟩
  · exact ⟨[120, 121, 122], rfl, by decide, sm _ rfl (by decide)⟩
  · exact ⟨[97, 98, 99], rfl, by decide, sm _ rfl (by decide)⟩
  · exact ⟨[99, 97, 98, 122], rfl, by decide, sm _ rfl (by decide)⟩
theorem sq_offN {K : PySem.W.Frag} {a p : Addr} {xs : List V} {H H3 H' : Hp} (h : SqL K H a xs) (n : H p = none) (s : Same H H3) (o : OffN p H3 H') : SqL K H' a xs := by
  rcases h with (h | ⟨o', h⟩) | h
  · exact .inl (.inl (o _ _ (s _ _ h) (fun ps z => by cases z) (ne_of_none h n)))
  · exact .inl (.inr ⟨o', o _ _ (s _ _ h) (fun ps z => by cases z) (ne_of_none h n)⟩)
  · exact .inr h
theorem any_id_rep (n : Nat) : (List.replicate n false).any id = false := by
  induction n with
  | zero => rfl
  | succ n ih => rw [List.replicate_succ, List.any_cons, ih]; rfl
section
variable {P : Program} {w : World} {K : PySem.W.Frag} {mg : Str → Option Value} {base : Heap}
/-! ### _law_shortest_right -/
def spShortest : Sp := fun vs H Q _ => ∃ a b w, vs = [tx a, tx b, tx w] ∧ Small a ∧ Small b ∧ Small w ∧ M13.CW a b w ∧ ∀ H', Same H H' → Q (.bl true) H'
theorem ok_law_shortest (T : All K mg) : FnOk P w K mg base CX0 4 T.f_law_shortest_right T.d_law_shortest_right ["_law_one", "_law_other", "_law_whole"] spShortest := by
  refine T.law_shortest_right.F.ok sc_law_shortest_right (fun vs H Q E h => ?_) (fun cdv A outer s H vs Q E hr h => ?_)
  · obtain ⟨a, b, w, rfl, _⟩ := h
    rfl
  · obtain ⟨a, b, w, rfl, ha, hb, hw, hcw, q⟩ := h
    have zw := small_len hw
    refine ⟨_, pss_cons (ps_setLc (i := 3) (own := [("_law_at", 4)]) (g := gName 4) (tt := tYes) (by rfl) sc_law_shortest_right.nd rfl rfl (sw_true rfl rfl rfl (by decide +kernel)) (pi_range1 rfl T.b_range (pa_cons (pe_callB call_lenT (by rfl) T.b_len PySem.boot_len (pa_cons (pv 2) pa_nil)) pa_nil))
          (blkOk_by (own := [("_law_at", 4)]) (N := ["_law_one", "_law_other", "_law_whole", "_law_less", "_law_at", "_law_text_here"]) (sc := defScope s_law_shortest_right) (by decide +kernel))
          (fun _ _ _ _ _ => pg_name (i := 4) sc_law_shortest_right.nd rfl (Or.inl rfl)) (fun _ _ _ _ _ => pts_nil)
          (fun _ _ _ _ _ => (pe_op op_addT (pe_slice sl_tx (pv 2) po_none (po_some (pv 4))) (pe_slice sl_tx (pv 2) (po_some (pe_op op_add (pv 4) pe_int)) po_none))))
      (pss_one (ps_ret (pe_not (pe_callB (cr_any rfl) (by rfl) T.b_any PyProof.Rows.boot_any (pa_cons (pe_lc (own := [("_law_text_here", 5)]) (g := gName 5) (tt := tYes) rfl sc_law_shortest_right.nd (pi_list (pv 3))
          (blkOk_by (own := [("_law_text_here", 5)]) (N := ["_law_one", "_law_other", "_law_whole", "_law_less", "_law_at", "_law_text_here"]) (sc := defScope s_law_shortest_right) (by decide +kernel))
          (fun _ _ _ _ _ => pg_name (i := 5) sc_law_shortest_right.nd rfl (Or.inl rfl)) (fun _ _ _ _ _ => pts_nil)
          (fun _ _ _ _ _ => (pe_and (pe_call (ok_is_part T) (hr.mono (by decide)) (by rfl) T.is_part.g T.is_part.F.kp T.is_part.b .nil pass0 (pa_cons (pv 0) (pa_cons (pv 5) pa_nil)))
        (pe_one (pe_call (ok_is_part T) (hr.mono (by decide)) (by rfl) T.is_part.g T.is_part.F.kp T.is_part.b .nil pass0 (pa_cons (pv 1) (pa_cons (pv 5) pa_nil))))))) pa_nil))))), ?_⟩
    refine ⟨_, rfl, w, rfl, zw, _, rfl, by omega, by have := hw.2; omega, fun D nD => ?_⟩
    have hN : ((w.length : Int)).toNat = w.length := by omega
    rw [hN]
    refine lc_gen walk_range (Same H) (fun i acc => acc = ((List.range i).map fun k => w.take k ++ w.drop (k + 1)).map tx) zw (fun i acc e => by rw [e]; simp) rfl (same_upd nD) (fun _ _ h => same_up h nD) (fun _ _ => trivial) (fun i x H2 H3 acc C N hi r hD hacc y c n => ?_) (fun H2 xs r hD hacc => ?_)
    · obtain ⟨rfl, rfl⟩ := y
      have hi0 : (0 : Int) + (i : Int) = (i : Int) := Int.zero_add _
      have hi1 : (0 : Int) + (i : Int) + 1 = ((i + 1 : Nat) : Int) := by omega
      refine ⟨rfl, yes_te ⟨_, rfl, _, rfl, _, rfl, w, rfl, zw, .inl ⟨rfl, i, congrArg some hi0, _, rfl, _, rfl, _, _, rfl, rfl, _, rfl, w, rfl, zw, .inr ⟨rfl, i + 1, congrArg some hi1, _, _, rfl, rfl, ?_, c _ _ r hD ?_⟩⟩⟩⟩
      · rw [List.length_take, List.length_drop]
        have := hw.2
        rw [sizeLine_eq]
        omega
      · rw [hacc, List.range_succ, List.map_append, List.map_append]
        rfl
    subst hacc
    refine ⟨_, rfl, D, rfl, ⟨_, .inl (.inl hD)⟩, fun D2 nD2 => ?_⟩
    have nD20 := r.free nD2
    have nDD : D ≠ D2 := ne_of_none hD nD2
    refine lc_gen (walk_list (xs := ((List.range w.length).map fun k => w.take k ++ w.drop (k + 1)).map tx)) (fun H' => Same H H' ∧ H' D = some (.lst (((List.range w.length).map fun k => w.take k ++ w.drop (k + 1)).map tx))) (fun i acc => acc = List.replicate i (.bl false)) (by simp; exact zw) (fun i acc e => by rw [e]; simp) rfl ⟨same_up r nD20, by rw [upd_ne nDD]; exact hD⟩ (fun _ _ h => ⟨same_up h.1 nD20, by rw [upd_ne nDD]; exact h.2⟩) (fun _ h => .inl (.inl h.2)) (fun i x H3 H4 acc C N hi r3 hD3 hacc y c n => ?_) (fun H3 xs r3 hD3 hacc => ?_)
    · obtain ⟨rfl, y⟩ := y
      rw [List.getElem?_map] at y
      obtain ⟨l, hl, rfl⟩ := Option.map_eq_some_iff.mp y
      obtain ⟨k, hk, rfl⟩ := List.mem_map.mp (List.mem_of_getElem? hl)
      have hk' := List.mem_range.mp hk
      have hsub : (w.take k ++ w.drop (k + 1)).length < w.length := by
        rw [List.length_append, List.length_take, List.length_drop]
        omega
      have hlS : Small (w.take k ++ w.drop (k + 1)) := ⟨fun c hc => by
        rcases List.mem_append.mp hc with hc | hc
        · exact hw.1 c (List.mem_of_mem_take hc)
        · exact hw.1 c (List.mem_of_mem_drop hc), by have := hw.2; omega⟩
      have fin : ∀ H5, Same H4 H5 → C (.bl false) H5 := fun H5 s5 => c _ _ ⟨r3.1.trans s5, s5 _ _ r3.2⟩ (s5 _ _ hD3) (by rw [hacc, List.replicate_succ'])
      refine ⟨rfl, yes_te ?_⟩
      refine ⟨_, rfl, _, rfl, a, _, rfl, ha, hlS, fun H5 s5 => ⟨_, rfl, ite2 (fun e => ?_) (fun e => fin _ s5)⟩⟩
      refine ⟨_, rfl, _, rfl, b, _, rfl, hb, hlS, fun H6 s6 => ?_⟩
      have hno : ¬ b.Sublist (w.take k ++ w.drop (k + 1)) := fun z => by
        have := M13.leW_len (hcw.m _ (of_decide_eq_true e) z)
        omega
      rw [decide_eq_false hno]
      exact fin _ (s5.trans s6)
    · subst hacc
      refine ⟨D2, List.replicate _ false, rfl, .inl (.inl (by rw [hD3, List.map_replicate])), ?_⟩
      rw [any_id_rep]
      exact ⟨_, rfl, q _ r3.1⟩
/-! ### _law_small_right -/
def spSmall (Pt : Addr) : Sp := fun vs H Q _ => ∃ (a : Addr) (sg : List Nat), vs = [.ref a, tx sg] ∧ Pot H a ∧ sg ≠ [] ∧ Small sg ∧ LamX.Tabs (TT Pt) H ∧ ∀ H', Rt Pt a H H' → Q (.bl true) H'
theorem ok_law_small (T : All K mg) {c Pt : Addr} (hcd : T.d_law_common.code = .ref c) (TB : LamX.TabB base mg c Pt) : FnOkG P w K mg base CX0 7 T.f_law_small_right T.d_law_small_right ["_law_pot_here", "_law_signs"] (spSmall Pt) := by
  refine okG T.law_small_right.F sc_law_small_right (fun vs H Q E h => ?_) (fun cdv A outer s H vs Q E hr hG h => ?_)
  · obtain ⟨a, sg, rfl, _⟩ := h
    rfl
  · obtain ⟨a, sg, rfl, hp, hs, hsm, hT, q⟩ := h
    refine ⟨_, pss_cons (ps_set (i := 2) sc_law_small_right.nd rfl (by first | exact Or.inl rfl | exact Or.inr rfl) (pe_call (ok_law_text T) (hr.mono (by decide)) (by rfl) T.law_text.g T.law_text.F.kp T.law_text.b .nil pass0 (pa_cons (pv 0) (pa_cons (pv 1) (pa_cons pe_int pa_nil)))))
      (pss_cons (ps_set (i := 3) sc_law_small_right.nd rfl (by first | exact Or.inl rfl | exact Or.inr rfl) (pe_ifExp (pt_cmpR op_eq (pe_call (ok_law_draw T) (hr.mono (by decide)) (by rfl) T.law_draw.g T.law_draw.F.kp T.law_draw.b .nil pass0 (pa_cons (pv 0) (pa_cons pe_int pa_nil))) pe_int (nomark _)) (pe_call (ok_law_bent T) (hr.mono (by decide)) (by rfl) T.law_bent.g T.law_bent.F.kp T.law_bent.b .nil pass0 (pa_cons (pv 0) (pa_cons (pv 1) (pa_cons (pv 2) pa_nil)))) (pe_call (ok_law_text T) (hr.mono (by decide)) (by rfl) T.law_text.g T.law_text.F.kp T.law_text.b .nil pass0 (pa_cons (pv 0) (pa_cons (pv 1) (pa_cons pe_int pa_nil))))))
      (pss_cons (ps_if (PW.pt (pw_or (pt_not (pt_val (pe_callG (ok_law_told T) (hr.mono (by decide)) hG (by rfl) T.law_told_right.g T.law_told_right.F.kp T.law_told_right.b pass0 (pa_cons (pv 2) (pa_cons (pv 3) pa_nil))))) (pw_or1 (pt_cmpR op_ne (pe_call (ok_common_part T) (hr.mono (by decide)) (by rfl) T.common_part.g T.common_part.F.kp T.common_part.b .nil pass0 (pa_cons (pv 2) (pa_cons (pv 3) pa_nil))) (pe_callG (ok_law_common T hcd TB) (hr.mono (by decide)) hG (by rfl) T.law_common.g T.law_common.F.kp T.law_common.b pass0 (pa_cons (pv 2) (pa_cons (pv 3) pa_nil))) (nomark _))))) (pss_one ps_never) pss_nil)
      (pss_cons (ps_if (pt_not (pt_val (pe_call (ok_law_shortest T) (hr.mono (by decide)) (by rfl) T.law_shortest_right.g T.law_shortest_right.F.kp T.law_shortest_right.b .nil pass0 (pa_cons (pv 2) (pa_cons (pv 3) (pa_cons (pe_call (ok_common_whole T) (hr.mono (by decide)) (by rfl) T.common_whole.g T.common_whole.F.kp T.common_whole.b .nil pass0 (pa_cons (pv 2) (pa_cons (pv 3) pa_nil))) pa_nil)))))) (pss_one ps_never) pss_nil)
      (pss_one (ps_ret (pe_and (pe_cmpR op_eq (pe_call (ok_common_part T) (hr.mono (by decide)) (by rfl) T.common_part.g T.common_part.F.kp T.common_part.b .nil pass0 (pa_cons (pv 2) (pa_cons (pv 2) pa_nil))) (pv 2) (by rfl))
        (pe_one (pe_cmpR op_eq (pe_call (ok_common_whole T) (hr.mono (by decide)) (by rfl) T.common_whole.g T.common_whole.F.kp T.common_whole.b .nil pass0 (pa_cons (pv 2) (pa_cons (pv 2) pa_nil))) (pv 2) (by rfl))))))))), ?_⟩
    refine ⟨_, rfl, _, rfl, a, sg, 8, rfl, hp, hs, hsm.2, by decide, fun H1 t htl htm hp1 ho1 => ?_⟩
    have r0 : Rt Pt a H H := ⟨hp, fun b o e _ _ => e, hT⟩
    have r1 := r0.to hp1 ho1
    have ht : Small t := .of htm hsm (by omega)
    dsimp only [gName]
    refine seq_to ?_
    refine join (fun σ' H' => ∃ v, σ' = [some (.ref a), some (tx sg), some (tx t), some (tx v)] ∧ Small v ∧ v.length ≤ 9 ∧ Rt Pt a H H') (fun N hN => ?_) (fun σ' H3 pv => ?_)
    · refine ⟨_, rfl, a, 2, rfl, hp1, by decide, by decide, fun H2 d hd hp2 ho2 => ?_⟩
      have r2 := r1.to hp2 ho2
      refine ⟨rfl, _, rfl, ite2 (fun e => ?_) (fun e => ?_)⟩
      · refine ⟨_, rfl, _, rfl, _, rfl, a, sg, t, rfl, hp2, hs, hsm.2, by omega, fun H3 v hvl hvm hp3 ho3 => ?_⟩
        exact hN _ _ ⟨v, rfl, ⟨fun c hc => (hvm c hc).elim (ht.1 c) (hsm.1 c), by omega⟩, by omega, r2.to hp3 ho3⟩
      · refine ⟨_, rfl, _, rfl, a, sg, 8, rfl, hp2, hs, hsm.2, by decide, fun H3 v hvl hvm hp3 ho3 => ?_⟩
        exact hN _ _ ⟨v, rfl, .of hvm hsm (by omega), by omega, r2.to hp3 ho3⟩
    · obtain ⟨v, rfl, hv, hvl, r3⟩ := pv
      dsimp only
      refine seq_to ?_
      refine if_no (Rt Pt a H) (fun Q hQ => ?_) (fun H4 r4 => ?_)
      · refine ⟨_, rfl, _, rfl, t, v, rfl, ht, hv, by omega, by omega, fun H4 s4 => ⟨_, rfl, iteF ?_⟩⟩
        refine ⟨_, rfl, _, rfl, t, v, rfl, ht, hv, by omega, by omega, fun H5 u1 s5 c1 => ?_⟩
        have r5 := (r3.same s4).same s5
        refine ⟨_, rfl, _, rfl, t, v, rfl, by omega, by omega, r5.tabs, fun H6 u2 x6 t6 c2 => ?_⟩
        obtain rfl := c1.eq c2
        refine ⟨rfl, _, rfl, ?_⟩
        rw [ne_self]
        exact hQ _ (r5.ext x6 t6)
      dsimp only [tNext]
      refine seq_to ?_
      refine if_no (Rt Pt a H) (fun Q hQ => ?_) (fun H5 r5 => ?_)
      · refine ⟨_, rfl, _, rfl, _, rfl, _, rfl, t, v, rfl, ht, hv, by omega, by omega, fun H5 u s5 cw => ?_⟩
        refine ⟨t, v, u, rfl, ht, hv, small_cw ht hv (by omega) (by omega) cw, cw, fun H6 s6 => ⟨_, rfl, ?_⟩⟩
        exact hQ _ ((r4.same s5).same s6)
      · refine ⟨_, rfl, _, rfl, t, t, rfl, ht, ht, by omega, by omega, fun H6 u s6 cp => ?_⟩
        obtain rfl := cp.eq (M13.CP.sub (List.Sublist.refl t))
        refine ⟨_, rfl, rfl, _, rfl, ?_⟩
        rw [decide_eq_true rfl]
        refine iteT ?_
        refine ⟨_, rfl, _, rfl, u, u, rfl, ht, ht, by omega, by omega, fun H7 u2 s7 cw => ?_⟩
        obtain rfl := cw.eq (M13.CW.sub (List.Sublist.refl u))
        refine ⟨_, rfl, rfl, ?_⟩
        rw [decide_eq_true rfl]
        exact q _ ((r5.same s6).same s7)
end
end Lw
namespace Lw
open PySem PySem.Spec PyProof.Rows L2 L3
theorem repL_mem {c : Nat} {l : List Nat} : ∀ {n : Nat}, c ∈ repL n l → c ∈ l
  | 0, h => by cases h
  | n + 1, h => by
    rcases List.mem_append.mp (show c ∈ l ++ repL n l from h) with h | h
    · exact h
    · exact repL_mem h
theorem small_rep {c n : Nat} (hc : 97 ≤ c ∧ c ≤ 122) (hn : n ≤ 1000) : Small (List.replicate n c) := ⟨fun x hx => by rw [List.eq_of_mem_replicate hx]; exact hc, by rw [List.length_replicate]; exact hn⟩
section
variable {P : Program} {w : World} {K : PySem.W.Frag} {mg : Str → Option Value} {base : Heap}
/-! ### _law_long_right -/
def spLong : Sp := fun vs H Q _ => ∃ (a : Addr) (sg : List Nat), vs = [.ref a, tx sg] ∧ Pot H a ∧ sg ≠ [] ∧ Small sg ∧ ∀ (H' : Hp), Pot H' a → Off a H H' → Q (.bl true) H'
theorem ok_law_long (T : All K mg) : FnOkG P w K mg base CX0 5 T.f_law_long_right T.d_law_long_right ["_law_pot_here", "_law_signs"] spLong := by
  refine okG T.law_long_right.F sc_law_long_right (fun vs H Q E h => ?_) (fun cdv A outer s H vs Q E hr hG h => ?_)
  · obtain ⟨a, sg, rfl, _⟩ := h
    rfl
  · obtain ⟨a, sg, rfl, hp, hs, hsm, q⟩ := h
    refine ⟨_, pss_cons (ps_set (i := 2) sc_law_long_right.nd rfl (by first | exact Or.inl rfl | exact Or.inr rfl) (pe_call (ok_law_text T) (hr.mono (by decide)) (by rfl) T.law_text.g T.law_text.F.kp T.law_text.b .nil pass0 (pa_cons (pv 0) (pa_cons (pv 1) (pa_cons pe_int pa_nil)))))
      (pss_cons (ps_for PassesOwn.never rfl (pi_list (pe_lst (pa_cons (pe_call (ok_law_text T) (hr.mono (by decide)) (by rfl) T.law_text.g T.law_text.F.kp T.law_text.b .nil pass0 (pa_cons (pv 0) (pa_cons (pv 1) (pa_cons pe_int pa_nil)))) (pa_cons (pe_step (k := -1) (pv 2) (pe_un un_neg pe_int) (fun σ H Q h => ⟨1, rfl, h⟩) rfl rfl) (pa_cons (pe_op op_addT (pe_slice sl_tx (pv 2) (po_some (pe_op op_fdiv (pe_callB call_lenT (by rfl) T.b_len PySem.boot_len (pa_cons (pv 2) pa_nil)) pe_int)) po_none) (pe_slice sl_tx (pv 2) po_none (po_some (pe_op op_fdiv (pe_callB call_lenT (by rfl) T.b_len PySem.boot_len (pa_cons (pv 2) pa_nil)) pe_int)))) pa_nil))))) (pg_name (i := 3) sc_law_long_right.nd rfl (by first | exact Or.inl rfl | exact Or.inr rfl))
        (pss_one (ps_if (pt_not (pt_val (pe_callG (ok_law_told T) (hr.mono (by decide)) hG (by rfl) T.law_told_right.g T.law_told_right.F.kp T.law_told_right.b pass0 (pa_cons (pv 2) (pa_cons (pv 3) pa_nil))))) (pss_one ps_never) pss_nil)))
      (pss_cons (ps_par rfl sc_law_long_right.nd (i := 4) (j := 5) rfl rfl (by decide) rfl rfl (pa_cons (pe_op op_mulT (pe_ix ix_tx (pv 1) pe_int (fun _ _ => rfl)) pe_int) (pa_cons (pe_slice sl_tx (pe_op op_mulT (pv 1) pe_int) po_none (po_some pe_int)) pa_nil)) (by rfl))
      (pss_cons (ps_set (i := 6) sc_law_long_right.nd rfl (by first | exact Or.inl rfl | exact Or.inr rfl) (pe_bm PySem.F.plainAttrs_str PySem.F.slot_str_count PySem.F.type_str_count mt_countT (pv 5) (pa_cons (pe_ix ix_tx (pv 1) pe_int (fun _ _ => rfl)) pa_nil)))
      (pss_one (ps_ret (pe_and (pe_cmpR op_eq (pe_call (ok_common_part T) (hr.mono (by decide)) (by rfl) T.common_part.g T.common_part.F.kp T.common_part.b .nil pass0 (pa_cons (pv 4) (pa_cons (pv 5) pa_nil))) (pe_op op_mulT (pe_ix ix_tx (pv 1) pe_int (fun _ _ => rfl)) (pv 6)) (by rfl))
        (pe_one (pe_cmpR op_eq (pe_callB call_lenT (by rfl) T.b_len PySem.boot_len (pa_cons (pe_call (ok_common_whole T) (hr.mono (by decide)) (by rfl) T.common_whole.g T.common_whole.F.kp T.common_whole.b .nil pass0 (pa_cons (pv 4) (pa_cons (pv 5) pa_nil))) pa_nil)) (pe_op op_sub pe_int (pv 6)) (by rfl))))))))), ?_⟩
    refine ⟨_, rfl, _, rfl, a, sg, 60, rfl, hp, hs, hsm.2, by decide, fun H1 t htl htm hp1 ho1 => ?_⟩
    have ht : Small t := .of htm hsm (by omega)
    have zt := small_len ht
    refine ⟨_, rfl, _, rfl, a, sg, 60, rfl, hp1, hs, hsm.2, by decide, fun H2 v hvl hvm hp2 ho2 => ?_⟩
    have hv : Small v := .of hvm hsm (by omega)
    refine ⟨_, rfl, t, rfl, zt, by rw [stepL_rev, List.length_reverse]; exact zt, ?_⟩
    rw [stepL_rev]
    have hdiv : ((t.length : Int) / 2) = ((t.length / 2 : Nat) : Int) := by omega
    refine ⟨_, rfl, _, rfl, t, rfl, zt, _, _, rfl, rfl, by show CDiv _ _; exact ⟨by decide, by decide⟩, _, rfl, t, rfl, zt, .inr ⟨rfl, t.length / 2, congrArg some hdiv, ?_⟩⟩
    refine ⟨_, rfl, _, rfl, t, rfl, zt, _, _, rfl, rfl, by show CDiv _ _; exact ⟨by decide, by decide⟩, _, rfl, t, rfl, zt, .inl ⟨rfl, t.length / 2, congrArg some hdiv, ?_⟩⟩
    refine ⟨_, _, rfl, rfl, by rw [List.length_drop, List.length_take, sizeLine_eq]; omega, ?_⟩
    refine ⟨by show 3 ≤ sizeLine; decide, fun D nD => ?_⟩
    have hDa : a ≠ D := hp2.ne nD
    refine ⟨D, rfl, ⟨_, .inl (.inl upd_same)⟩, ?_⟩
    have hall : ∀ l ∈ [v, t.reverse, t.drop (t.length / 2) ++ t.take (t.length / 2)], Small l ∧ l.length ≤ 60 := by
      intro l hl
      simp only [List.mem_cons, List.not_mem_nil, or_false] at hl
      rcases hl with rfl | rfl | rfl
      · exact ⟨hv, hvl⟩
      · exact ⟨.of (fun c hc => htm c (List.mem_reverse.mp hc)) hsm (by rw [List.length_reverse]; omega), by rw [List.length_reverse]; omega⟩
      · refine ⟨⟨fun c hc => ?_, ?_⟩, ?_⟩
        · rcases List.mem_append.mp hc with hc | hc
          · exact ht.1 c (List.mem_of_mem_drop hc)
          · exact ht.1 c (List.mem_of_mem_take hc)
        · rw [List.length_append, List.length_drop, List.length_take]; omega
        · rw [List.length_append, List.length_drop, List.length_take]; omega
    have ho2' : Off a H H2 := ho1.trans ho2
    refine for_list (xs := [v, t.reverse, t.drop (t.length / 2) ++ t.take (t.length / 2)].map tx) (fun i σ H' => ∃ y, σ = [some (.ref a), some (tx sg), some (tx t), y, none, none, none] ∧ Off a H H' ∧ Pot H' a ∧ H' D = some (.lst ([v, t.reverse, t.drop (t.length / 2) ++ t.take (t.length / 2)].map tx)))
      ⟨none, rfl, ho2'.up (ho2'.free nD hp2), hp2.up hDa, upd_same⟩ (fun j σ H' _ p => p.elim fun _ p => .inl (.inl p.2.2.2)) (fun j x σ H' hx p => ?_) (fun σ H' p => ?_)
    · obtain ⟨y, rfl, ho6, hp6, hD⟩ := p
      rw [List.getElem?_map] at hx
      obtain ⟨l, hl, rfl⟩ := Option.map_eq_some_iff.mp hx
      have hl0 := hall l (List.mem_of_getElem? hl)
      refine ⟨_, rfl, _, rfl, t, l, rfl, ht, hl0.1, htl, hl0.2, fun H7 s7 => ⟨_, rfl, ?_⟩⟩
      exact iteF ⟨_, rfl, ho6.trans (.of s7), hp6.same s7, s7 _ _ hD⟩
    · obtain ⟨y, rfl, ho6, hp6, hD⟩ := p
      obtain ⟨c, r, rfl⟩ : ∃ c r, sg = c :: r := by
        cases sg with
        | nil => exact absurd rfl hs
        | cons c r => exact ⟨c, r, rfl⟩
      have hc := hsm.1 c List.mem_cons_self
      have zs := small_len hsm
      have hsl := hsm.2
      refine ⟨_, rfl, c :: r, 0, c, rfl, rfl, zs, rfl, [c], 60, rfl, rfl, by decide, by show 1 * 60 ≤ 1000000; decide, ?_⟩
      rw [repL_one]
      refine ⟨_, rfl, c :: r, 60, rfl, rfl, by decide, by omega, ?_⟩
      refine ⟨_, rfl, repL 60 (c :: r), rfl, by rw [repL_len, sizeLine_eq]; omega, .inl ⟨rfl, 60, rfl, ?_⟩⟩
      refine ⟨_, _, rfl, ?_⟩
      have hwl : ((repL 60 (c :: r)).take 60).length = 60 := by
        rw [List.length_take, repL_len, List.length_cons]
        omega
      have hwS : Small ((repL 60 (c :: r)).take 60) := ⟨fun x hx => hsm.1 x (repL_mem (List.mem_of_mem_take hx)), by omega⟩
      generalize hW : (repL 60 (c :: r)).take 60 = wd at *
      have hcnt : wd.count c ≤ 60 := by rw [← hwl]; exact List.count_le_length
      have hF : Small (List.replicate 60 c) := small_rep hc (by decide)
      have hFl : (List.replicate 60 c).length ≤ 60 := by rw [List.length_replicate]; exact Nat.le_refl _
      refine ⟨_, rfl, rfl, _, rfl, c :: r, 0, c, rfl, rfl, zs, rfl, wd, c, rfl, rfl, ?_⟩
      refine ⟨_, rfl, _, rfl, _, wd, rfl, hF, hwS, hFl, by omega, fun H7 p s7 cp => ?_⟩
      obtain rfl := cp.eq (M13.CP.rep hcnt)
      refine ⟨_, rfl, c :: r, 0, c, rfl, rfl, zs, rfl, _, rfl, [c], wd.count c, rfl, rfl, by omega, by simp; omega, ?_⟩
      rw [repL_one]
      refine ⟨rfl, _, rfl, ?_⟩
      rw [decide_eq_true rfl]
      refine iteT ?_
      refine ⟨_, rfl, _, rfl, _, wd, rfl, hF, hwS, hFl, by omega, fun H8 wh s8 cw => ?_⟩
      refine ⟨wh, rfl, small_len (small_cw hF hwS hFl (by omega) cw), ?_⟩
      have hsum := M13.len_sum cp cw
      rw [List.length_replicate, List.length_replicate, hwl] at hsum
      refine ⟨_, rfl, _, _, rfl, rfl, rfl, ?_⟩
      rw [decide_eq_true (congrArg V.int (show (wh.length : Int) = 120 - ((wd.count c : Nat) : Int) by omega))]
      exact q _ ((hp6.same s7).same s8) ((ho6.trans (.of s7)).trans (.of s8))
end
end Lw
namespace Lw
open PySem PySem.Spec PyProof.Rows L2 L3
theorem smallB {l : List Nat} (h : (l.all fun c => decide (97 ≤ c ∧ c ≤ 122)) = true) (h2 : l.length ≤ 1000) : Small l := ⟨fun c hc => by simpa using List.all_eq_true.mp h c hc, h2⟩
theorem sg_lit6 {v : V} (h : v ∈ [V.str "a", .str "ab", .str "ba", .str "xyz", .str "abc", .str "cabz"]) : ∃ sg, v = tx sg ∧ sg ≠ [] ∧ Small sg ∧ sg.length ≤ 6 := by
  have sm : ∀ l : List Nat, (l.all fun c => decide (97 ≤ c ∧ c ≤ 122)) = true → l.length ≤ 1000 → Small l := fun l h1 h2 => ⟨fun c hc => by simpa using List.all_eq_true.mp h1 c hc, h2⟩
  simp only [List.mem_cons, List.not_mem_nil, or_false] at h
  rcases h with rfl | rfl | rfl | rfl | rfl | rfl
  · exact ⟨[97], rfl, by decide, sm _ rfl (by decide), by decide⟩
  · exact ⟨[97, 98], rfl, by decide, sm _ rfl (by decide), by decide⟩
  · exact ⟨[98, 97], rfl, by decide, sm _ rfl (by decide), by decide⟩
  · exact ⟨[120, 121, 122], rfl, by decide, sm _ rfl (by decide), by decide⟩
  · exact ⟨[97, 98, 99], rfl, by decide, sm _ rfl (by decide), by decide⟩
  · exact ⟨[99, 97, 98, 122], rfl, by decide, sm _ rfl (by decide), by decide⟩
theorem cp_lit : M13.CP [102, 101, 99, 97, 100, 98] [98, 100, 97, 99, 101, 102] [97] := by
  refine ⟨by decide, by decide, fun s h1 h2 => ?_⟩
  have h : ∀ s ∈ M11.subs [102, 101, 99, 97, 100, 98], s.Sublist [98, 100, 97, 99, 101, 102] → M13.leP [97] s := by decide +kernel
  exact h s ((M11.mem_subs _ _).mpr h1) h2
theorem cw_lit : M13.CW [102, 101] [101, 102] [101, 102, 101] :=
  .ne (t1 := [101, 102]) (t2 := [102, 101]) (.sub (by decide)) (M13.CW.sub (by decide)).sym (by decide) ⟨by decide, by decide⟩
theorem cw_lit2 : M13.CW [113] [97] [97, 113] :=
  .ne (t1 := [97]) (t2 := [113]) (.nil _) (M13.CW.nil _).sym (by decide) ⟨by decide, by decide⟩
section
variable {P : Program} {w : World} {K : PySem.W.Frag} {mg : Str → Option Value} {base : Heap}
/-! ### _law_right -/
def spRight (Pt : Addr) : Sp := fun vs H Q _ => ∃ a : Addr, vs = [.ref a] ∧ Pot H a ∧ LamX.Tabs (TT Pt) H ∧ ∀ H', Rt Pt a H H' → Q (.bl true) H'
theorem ok_law_right (T : All K mg) {c Pt : Addr} (hcd : T.d_law_common.code = .ref c) (TB : LamX.TabB base mg c Pt) : FnOkG P w K mg base CX0 8 T.f_law_right T.d_law_right ["_law_pot_here"] (spRight Pt) := by
  refine okG T.law_right.F sc_law_right (fun vs H Q E h => ?_) (fun cdv A outer s H vs Q E hr hG h => ?_)
  · obtain ⟨a, rfl, _⟩ := h
    rfl
  · obtain ⟨a, rfl, hp, hT, q⟩ := h
    refine ⟨_, pss_cons (ps_set (i := 1) sc_law_right.nd rfl (by first | exact Or.inl rfl | exact Or.inr rfl) (pe_call (ok_law_pick T) (hr.mono (by decide)) (by rfl) T.law_pick.g T.law_pick.F.kp T.law_pick.b .nil pass0 (pa_cons (pv 0) (pa_cons (pe_lst (pa_cons pe_str (pa_cons pe_str (pa_cons pe_str (pa_cons pe_str (pa_cons pe_str (pa_cons pe_str pa_nil))))))) pa_nil))))
      (pss_cons (ps_if (PW.pt (pw_or (pt_not (pt_val (pe_callB (cr_all rfl) (by rfl) T.b_all PyProof.Rows.boot_all (pa_cons (pe_lc (own := [("_law_turn", 2)]) (g := gName 2) (tt := tYes) rfl sc_law_right.nd (pi_range1 rfl T.b_range (pa_cons pe_int pa_nil))
          (blkOk_by (own := [("_law_turn", 2)]) (N := ["_law_pot_here", "_law_signs", "_law_turn"]) (sc := defScope s_law_right) (by decide +kernel))
          (fun _ _ _ _ _ => pg_name (i := 2) sc_law_right.nd rfl (Or.inl rfl)) (fun _ _ _ _ _ => pts_nil)
          (fun _ _ _ _ _ => (pe_callG (ok_law_small T hcd TB) (hr.mono (by decide)) hG (by rfl) T.law_small_right.g T.law_small_right.F.kp T.law_small_right.b pass0 (pa_cons (pv 0) (pa_cons (pv 1) pa_nil))))) pa_nil)))) (pw_or1 (pt_not (pt_val (pe_callG (ok_law_long T) (hr.mono (by decide)) hG (by rfl) T.law_long_right.g T.law_long_right.F.kp T.law_long_right.b pass0 (pa_cons (pv 0) (pa_cons (pv 1) pa_nil)))))))) (pss_one ps_never) pss_nil)
      (pss_cons (ps_if (PW.pt (pw_or (pt_not (pt_val (pe_callB (cr_all rfl) (by rfl) T.b_all PyProof.Rows.boot_all (pa_cons (pe_lc (own := [("_law_turn", 2)]) (g := gName 2) (tt := tYes) rfl sc_law_right.nd (pi_range1 rfl T.b_range (pa_cons pe_int pa_nil))
          (blkOk_by (own := [("_law_turn", 2)]) (N := ["_law_pot_here", "_law_signs", "_law_turn"]) (sc := defScope s_law_right) (by decide +kernel))
          (fun _ _ _ _ _ => pg_name (i := 2) sc_law_right.nd rfl (Or.inl rfl)) (fun _ _ _ _ _ => pts_nil)
          (fun _ _ _ _ _ => (pe_callG (ok_law_small T hcd TB) (hr.mono (by decide)) hG (by rfl) T.law_small_right.g T.law_small_right.F.kp T.law_small_right.b pass0 (pa_cons (pv 0) (pa_cons pe_str pa_nil))))) pa_nil)))) (pw_or1 (pt_not (pt_val (pe_callG (ok_law_long T) (hr.mono (by decide)) hG (by rfl) T.law_long_right.g T.law_long_right.F.kp T.law_long_right.b pass0 (pa_cons (pv 0) (pa_cons pe_str pa_nil)))))))) (pss_one ps_never) pss_nil)
      (pss_cons (ps_if (PW.pt (pw_or (pt_cmpR op_ne (pe_call (ok_common_part T) (hr.mono (by decide)) (by rfl) T.common_part.g T.common_part.F.kp T.common_part.b .nil pass0 (pa_cons pe_str (pa_cons pe_str pa_nil))) pe_str (nomark _)) (pw_or1 (pt_cmpR op_ne (pe_call (ok_common_whole T) (hr.mono (by decide)) (by rfl) T.common_whole.g T.common_whole.F.kp T.common_whole.b .nil pass0 (pa_cons pe_str (pa_cons pe_str pa_nil))) pe_str (nomark _))))) (pss_one ps_never) pss_nil)
      (pss_one (ps_ret (pe_and (pe_cmpR op_eq (pe_call (ok_common_part T) (hr.mono (by decide)) (by rfl) T.common_part.g T.common_part.F.kp T.common_part.b .nil pass0 (pa_cons pe_str (pa_cons (pv 1) pa_nil))) pe_str (by rfl))
        (pe_and (pe_cmpR op_eq (pe_call (ok_common_whole T) (hr.mono (by decide)) (by rfl) T.common_whole.g T.common_whole.F.kp T.common_whole.b .nil pass0 (pa_cons pe_str (pa_cons (pv 1) pa_nil))) (pv 1) (by rfl))
        (pe_one (pe_cmpR op_eq (pe_call (ok_common_whole T) (hr.mono (by decide)) (by rfl) T.common_whole.g T.common_whole.F.kp T.common_whole.b .nil pass0 (pa_cons pe_str (pa_cons pe_str pa_nil))) pe_str (by rfl)))))))))), ?_⟩
    refine ⟨_, rfl, by show 6 ≤ sizeLine; decide, fun p np => ?_⟩
    have hpp := fun o => hp.up (o := o) (hp.ne np)
    refine ⟨a, _, rfl, hpp _, .inr ⟨p, _, rfl, (hp.ne np).symm, .inl (.inl upd_same), by simp, by show 6 ≤ 1000; decide, fun H1 vsg hvm hp1 ho1 => ?_⟩⟩
    obtain ⟨sg, rfl, hs, hsm, hs6⟩ := sg_lit6 hvm
    have r1 : Rt Pt a H H1 := (⟨hpp _, .of (same_upd np), hT.ext (same_upd np)⟩ : Rt Pt a H (upd H p _)).to hp1 ho1
    have h6 : Small [102, 101, 99, 97, 100, 98] := smallB rfl (by decide)
    dsimp only [gName]
    refine seq_to ?_
    refine if_no (Rt Pt a H) (fun Q hQ => ?_) (fun H2 r2 => ?_)
    · refine ⟨_, rfl, by decide, by decide, fun D nD => ?_⟩
      have hDa : a ≠ D := r1.pot.ne nD
      refine lc_gen2 walk_range (Rt Pt a H1) (fun i acc => acc = List.replicate i (.bl true)) (by decide) (fun i acc e => by rw [e]; simp) rfl ⟨r1.pot.up hDa, .of (same_upd nD), r1.tabs.ext (same_upd nD)⟩ (fun H' acc acc' hD r => r.put hD nD hDa) (fun _ _ => trivial) (fun i x H7 H8 acc C N hi r hD ha y c n => ?_) (fun H7 xs r hD ha => ?_)
      · obtain ⟨rfl, rfl⟩ := y
        refine ⟨rfl, yes_te ?_⟩
        refine ⟨_, rfl, _, rfl, a, sg, rfl, r.pot, hs, hsm, r.tabs, fun H10 r10 => ?_⟩
        refine c _ _ (r.toN r10.pot r10.off r10.tabs) (r10.off _ _ hD (fun ps z => by cases z) hDa.symm) ?_
        rw [ha, List.replicate_succ']
      · subst ha
        refine ⟨D, List.replicate _ true, rfl, .inl (.inl (by rw [hD, List.map_replicate])), ?_⟩
        rw [all_id_rep]
        refine ⟨_, rfl, iteF ?_⟩
        have r2 := r1.toN r.pot r.off r.tabs
        refine ⟨_, rfl, _, rfl, a, sg, rfl, r2.pot, hs, hsm, fun H8 p8 o8 => ⟨_, rfl, ?_⟩⟩
        exact hQ _ (r2.to p8 o8)
    dsimp only [tNext]
    refine seq_to ?_
    refine if_no (Rt Pt a H) (fun Q hQ => ?_) (fun H3 r3 => ?_)
    · refine ⟨_, rfl, by decide, by decide, fun D nD => ?_⟩
      have hDa : a ≠ D := r2.pot.ne nD
      refine lc_gen2 walk_range (Rt Pt a H2) (fun i acc => acc = List.replicate i (.bl true)) (by decide) (fun i acc e => by rw [e]; simp) rfl ⟨r2.pot.up hDa, .of (same_upd nD), r2.tabs.ext (same_upd nD)⟩ (fun H' acc acc' hD r => r.put hD nD hDa) (fun _ _ => trivial) (fun i x H7 H8 acc C N hi r hD ha y c n => ?_) (fun H7 xs r hD ha => ?_)
      · obtain ⟨rfl, rfl⟩ := y
        refine ⟨rfl, yes_te ?_⟩
        refine ⟨_, rfl, a, [102, 101, 99, 97, 100, 98], rfl, r.pot, by simp, h6, r.tabs, fun H10 r10 => ?_⟩
        refine c _ _ (r.toN r10.pot r10.off r10.tabs) (r10.off _ _ hD (fun ps z => by cases z) hDa.symm) ?_
        rw [ha, List.replicate_succ']
      · subst ha
        refine ⟨D, List.replicate _ true, rfl, .inl (.inl (by rw [hD, List.map_replicate])), ?_⟩
        rw [all_id_rep]
        refine ⟨_, rfl, iteF ?_⟩
        have r4 := r2.toN r.pot r.off r.tabs
        refine ⟨_, rfl, a, [102, 101, 99, 97, 100, 98], rfl, r4.pot, by simp, h6, fun H8 p8 o8 => ⟨_, rfl, ?_⟩⟩
        exact hQ _ (r4.to p8 o8)
    dsimp only [tNext]
    refine seq_to ?_
    refine if_no (Rt Pt a H) (fun Q hQ => ?_) (fun H4 r4 => ?_)
    · refine ⟨[102, 101, 99, 97, 100, 98], [98, 100, 97, 99, 101, 102], rfl, h6, smallB rfl (by decide), by decide, by decide, fun H5 t s5 cp => ?_⟩
      obtain rfl := cp.eq cp_lit
      refine ⟨rfl, false, rfl, iteF ?_⟩
      refine ⟨[102, 101], [101, 102], rfl, smallB rfl (by decide), smallB rfl (by decide), by decide, by decide, fun H6 t s6 cw => ?_⟩
      obtain rfl := cw.eq cw_lit
      refine ⟨rfl, false, rfl, ?_⟩
      exact hQ _ ((r3.same s5).same s6)
    · have h0 : Small [] := smallB rfl (by decide)
      have hsl : sg.length ≤ 60 := by omega
      refine ⟨_, rfl, [], sg, rfl, h0, hsm, by decide, hsl, fun H5 t s5 cp => ?_⟩
      obtain rfl := cp.eq (.nil _)
      refine ⟨rfl, true, rfl, iteT ?_⟩
      refine ⟨_, rfl, [], sg, rfl, h0, hsm, by decide, hsl, fun H6 t s6 cw => ?_⟩
      obtain rfl := cw.eq (.nil _)
      refine ⟨_, rfl, rfl, _, rfl, ?_⟩
      rw [decide_eq_true rfl]
      refine iteT ?_
      refine ⟨[113], [97], rfl, smallB rfl (by decide), smallB rfl (by decide), by decide, by decide, fun H7 t s7 cw => ?_⟩
      obtain rfl := cw.eq cw_lit2
      refine ⟨rfl, ?_⟩
      exact q _ (((r4.same s5).same s6).same s7)
/-! ### law -/
def spLaw (K : PySem.W.Frag) (Pt : Addr) : Sp := fun vs H Q _ => ∃ (a : Addr) (ns : List Int), vs = [.ref a] ∧ SqL K H a (ns.map V.int) ∧ LamX.Tabs (TT Pt) H ∧ ∀ H', Q (.bl true) H'
theorem ok_law (T : All K mg) {c Pt : Addr} (hcd : T.d_law_common.code = .ref c) (TB : LamX.TabB base mg c Pt) : FnOkG P w K mg base CX0 9 T.f_law T.d_law ["_law_script"] (spLaw K Pt) := by
  refine okG T.law.F sc_law (fun vs H Q E h => ?_) (fun cdv A outer s H vs Q E hr hG h => ?_)
  · obtain ⟨a, ns, rfl, _⟩ := h
    rfl
  · obtain ⟨a, ns, rfl, hS, hT, q⟩ := h
    refine ⟨_, pss_one (ps_ret (pe_callB (cr_all rfl) (by rfl) T.b_all PyProof.Rows.boot_all (pa_cons (pe_lc (own := [("_law_k", 1)]) (g := gName 1) (tt := tYes) rfl sc_law.nd (pi_range1 rfl T.b_range (pa_cons (pe_callB (call_max2 rfl) (by rfl) T.b_max PyProof.Rows.boot_max (pa_cons pe_int (pa_cons (pe_callB (call_min2 rfl) (by rfl) T.b_min PyProof.Rows.boot_min (pa_cons pe_int (pa_cons (pe_callB call_len_seq (by rfl) T.b_len PySem.boot_len (pa_cons (pv 0) pa_nil)) pa_nil))) pa_nil))) pa_nil))
          (blkOk_by (own := [("_law_k", 1)]) (N := ["_law_script", "_law_k"]) (sc := defScope s_law) (by decide +kernel))
          (fun _ _ _ _ _ => pg_name (i := 1) sc_law.nd rfl (Or.inl rfl)) (fun _ _ _ _ _ => pts_nil)
          (fun _ _ _ _ _ => (pe_callG (ok_law_right T hcd TB) (hr.mono (by decide)) hG (by rfl) T.law_right.g T.law_right.F.kp T.law_right.b pass0 (pa_cons (pe_call (ok_law_pot T) (hr.mono (by decide)) (by rfl) T.law_pot.g T.law_pot.F.kp T.law_pot.b .nil pass0 (pa_cons (pv 0) (pa_cons (pv 1) pa_nil))) pa_nil)))) pa_nil))), ?_⟩
    refine ⟨_, rfl, a, _, rfl, .inl hS, _, _, rfl, _, _, rfl, ?_⟩
    refine ⟨_, rfl, ?_, ?_, fun D nD => ?_⟩
    · split <;> split <;> omega
    · split <;> split <;> omega
    have hn : ((if (if ((ns.map V.int).length : Int) < 4 then ((ns.map V.int).length : Int) else 4) > 1 then (if ((ns.map V.int).length : Int) < 4 then ((ns.map V.int).length : Int) else 4) else 1) : Int).toNat ≤ 4 := by
      split <;> split <;> omega
    have hAD : (∀ H', SqL K H' a (ns.map V.int)) ∨ a ≠ D := by
      rcases hS with (h | ⟨o', h⟩) | h
      · exact .inr (ne_of_none h nD)
      · exact .inr (ne_of_none h nD)
      · exact .inl fun H' => .inr h
    refine lc_gen2 walk_range (fun H' => LamX.Tabs (TT Pt) H' ∧ SqL K H' a (ns.map V.int)) (fun i acc => acc = List.replicate i (.bl true)) ?_ (fun i acc e => by rw [e]; simp) rfl
      ⟨hT.ext (same_upd nD), sq_new hS nD⟩ (fun H' acc acc' hD r => ⟨tabs_lst r.1 hD (Off.at (Off.refl _ _)), hAD.elim (fun h => h _) (fun n => sq_put r.2 n)⟩) (fun _ _ => trivial) (fun i x H7 H8 acc C N hi r hD ha y c n => ?_) (fun H7 xs r hD ha => ?_)
    · rw [sizeLine_eq]
      exact Nat.le_trans hn (by decide)
    · obtain ⟨rfl, rfl⟩ := y
      have hi4 : i < 4 := Nat.lt_of_lt_of_le hi hn
      refine ⟨rfl, yes_te ?_⟩
      refine ⟨_, rfl, _, rfl, a, ns, i, congrArg (fun z => [V.ref a, V.int z]) (Int.zero_add _), r.2, by omega, fun H9 p s9 n9 hp9 => ?_⟩
      refine ⟨p, rfl, hp9, r.1.ext s9, fun H10 r10 => ?_⟩
      refine c _ _ ⟨r10.tabs, sq_offN r.2 n9 s9 r10.off⟩ (r10.off _ _ (s9 _ _ hD) (fun ps z => by cases z) (ne_of_none hD n9)) ?_
      rw [ha, List.replicate_succ']
    · subst ha
      refine ⟨D, List.replicate _ true, rfl, .inl (.inl (by rw [hD, List.map_replicate])), ?_⟩
      rw [all_id_rep]
      exact q _
theorem fin {P : Program} {w : World} {K : PySem.W.Frag} {mg mb : Str → Option Value} {fa fl a c Pt : Addr} {s₁ : Shared} {vs : List Value} {ns : List Int}
    (KX : K.In s₁.heap) (hns : s₁.heap.Ns mainGlobals mg) (hb : s₁.heap.Ns builtinsNs mb) (hbb : ∀ x : Str, x ≠ "__name__" → mb x = bootBuiltins x) (hlim : s₁.heap.NoLimit) (hg : s₁.gens = #[])
    (hT : s₁.heap.get? Pt = some (PySem.W.tabObj #[])) (nT : K.lookup Pt = none) (hC : PySem.W.codeHdIn K c Pt = true)
    (hbm : ∃ (bm : Addr) (ob : Obj), mg "__builtins__" = some (.ref bm) ∧ bm ≠ builtinsNs ∧ s₁.heap.get? bm = some ob ∧ ob.cls = .type "module" ∧ ob.dict = some builtinsNs ∧ ob.data = .plain)
    (ha : s₁.heap.get? a = some { cls := .type "list", data := .seq vs.toArray }) (hi : IntsAre vs ns) (hl : ns.length ≤ sizeLine) (hmg : mg "law" = some (.ref fa))
    (hall : ∃ T : All K mg, T.f_law = fl ∧ T.d_law_common.code = .ref c) :
    codeAny (model P w) callerA (.call (.ref fa) ⟨[.ref a], []⟩) (fun r s' => r = .ok (.ret (.bool true)) ∧ OldK s₁.heap s'.heap ∧ s'.os = s₁.os ∧ AllBare s'.gens) s₁ := by
  obtain ⟨T, _, hcd⟩ := hall
  have e : T.f_law = fa := by
    have h := T.law.g
    rw [hmg] at h
    exact (Value.ref.inj (Option.some.inj h)).symm
  rw [← e]
  refine law_callG (cs := [(c, Pt)]) (k := 9) (sp := spLaw K Pt) KX hns hb hbb hlim hg (fun p hp => ?_) (fun p hp => ?_) (fun p hp => ?_) hbm ha hi hl ⟨rfl, by decide, by decide⟩ (fun base hK hM TB => ok_law T hcd (TB (c, Pt) (List.mem_singleton.mpr rfl))) T.law.b (fun H hH hS => ?_)
  · rw [List.mem_singleton.mp hp]; exact hT
  · rw [List.mem_singleton.mp hp]; exact nT
  · rw [List.mem_singleton.mp hp]; exact PySem.W.codeHd_of_K KX hC
  · refine ⟨a, ns, rfl, hS, fun p hp => ?_, fun H' => rfl⟩
    rw [List.mem_singleton.mp hp]
    exact LamX.TabS.nil (hH (c, Pt) (List.mem_singleton.mpr rfl))
end
end Lw
namespace Lw
open PySem PySem.Spec PyProof.Rows L2 L3
theorem all_mk {K : PySem.W.Frag} {h : Heap} {mg : Str → Option Value} (X : K.In h) (G : h.Ns mainGlobals mg)
    {f_is_text : Addr} {oc_is_text kV_is_text dc_is_text pm_is_text cd_is_text ct_is_text : Value} {od_is_text an_is_text : Option Addr} {sl_is_text : Array (Option Value)}
    (a_is_text : PySem.W.nsIn K mainGlobals "is_text" = some (some (.ref f_is_text))) (l_is_text : K.lookup f_is_text = some ⟨oc_is_text, od_is_text, .func (PySem.W.fnOf "is_text" "is_text" (defArgs s_is_text) (defBody s_is_text) (defScope s_is_text) .none kV_is_text dc_is_text pm_is_text an_is_text cd_is_text ct_is_text), sl_is_text⟩) (e_is_text : PySem.W.codeIn K cd_is_text "is_text" = true) (k_is_text : PySem.W.keepIn K (.ref f_is_text) = true)
    {f_text_key : Addr} {oc_text_key kV_text_key dc_text_key pm_text_key cd_text_key ct_text_key : Value} {od_text_key an_text_key : Option Addr} {sl_text_key : Array (Option Value)}
    (a_text_key : PySem.W.nsIn K mainGlobals "text_key" = some (some (.ref f_text_key))) (l_text_key : K.lookup f_text_key = some ⟨oc_text_key, od_text_key, .func (PySem.W.fnOf "text_key" "text_key" (defArgs s_text_key) (defBody s_text_key) (defScope s_text_key) .none kV_text_key dc_text_key pm_text_key an_text_key cd_text_key ct_text_key), sl_text_key⟩) (e_text_key : PySem.W.codeIn K cd_text_key "text_key" = true) (k_text_key : PySem.W.keepIn K (.ref f_text_key) = true)
    {f_want_few : Addr} {oc_want_few kV_want_few dc_want_few pm_want_few cd_want_few ct_want_few : Value} {od_want_few an_want_few : Option Addr} {sl_want_few : Array (Option Value)}
    (a_want_few : PySem.W.nsIn K mainGlobals "want_few" = some (some (.ref f_want_few))) (l_want_few : K.lookup f_want_few = some ⟨oc_want_few, od_want_few, .func (PySem.W.fnOf "want_few" "want_few" (defArgs s_want_few) (defBody s_want_few) (defScope s_want_few) .none kV_want_few dc_want_few pm_want_few an_want_few cd_want_few ct_want_few), sl_want_few⟩) (e_want_few : PySem.W.codeIn K cd_want_few "want_few" = true) (k_want_few : PySem.W.keepIn K (.ref f_want_few) = true)
    {f_want_texts : Addr} {oc_want_texts kV_want_texts dc_want_texts pm_want_texts cd_want_texts ct_want_texts : Value} {od_want_texts an_want_texts : Option Addr} {sl_want_texts : Array (Option Value)}
    (a_want_texts : PySem.W.nsIn K mainGlobals "want_texts" = some (some (.ref f_want_texts))) (l_want_texts : K.lookup f_want_texts = some ⟨oc_want_texts, od_want_texts, .func (PySem.W.fnOf "want_texts" "want_texts" (defArgs s_want_texts) (defBody s_want_texts) (defScope s_want_texts) .none kV_want_texts dc_want_texts pm_want_texts an_want_texts cd_want_texts ct_want_texts), sl_want_texts⟩) (e_want_texts : PySem.W.codeIn K cd_want_texts "want_texts" = true) (k_want_texts : PySem.W.keepIn K (.ref f_want_texts) = true)
    {f_is_part_of : Addr} {oc_is_part_of kV_is_part_of dc_is_part_of pm_is_part_of cd_is_part_of ct_is_part_of : Value} {od_is_part_of an_is_part_of : Option Addr} {sl_is_part_of : Array (Option Value)}
    (a_is_part_of : PySem.W.nsIn K mainGlobals "is_part_of" = some (some (.ref f_is_part_of))) (l_is_part_of : K.lookup f_is_part_of = some ⟨oc_is_part_of, od_is_part_of, .func (PySem.W.fnOf "is_part_of" "is_part_of" (defArgs s_is_part_of) (defBody s_is_part_of) (defScope s_is_part_of) .none kV_is_part_of dc_is_part_of pm_is_part_of an_is_part_of cd_is_part_of ct_is_part_of), sl_is_part_of⟩) (e_is_part_of : PySem.W.codeIn K cd_is_part_of "is_part_of" = true) (k_is_part_of : PySem.W.keepIn K (.ref f_is_part_of) = true)
    {f_is_part : Addr} {oc_is_part kV_is_part dc_is_part pm_is_part cd_is_part ct_is_part : Value} {od_is_part an_is_part : Option Addr} {sl_is_part : Array (Option Value)}
    (a_is_part : PySem.W.nsIn K mainGlobals "is_part" = some (some (.ref f_is_part))) (l_is_part : K.lookup f_is_part = some ⟨oc_is_part, od_is_part, .func (PySem.W.fnOf "is_part" "is_part" (defArgs s_is_part) (defBody s_is_part) (defScope s_is_part) .none kV_is_part dc_is_part pm_is_part an_is_part cd_is_part ct_is_part), sl_is_part⟩) (e_is_part : PySem.W.codeIn K cd_is_part "is_part" = true) (k_is_part : PySem.W.keepIn K (.ref f_is_part) = true)
    {f_first_longest : Addr} {oc_first_longest kV_first_longest dc_first_longest pm_first_longest cd_first_longest ct_first_longest : Value} {od_first_longest an_first_longest : Option Addr} {sl_first_longest : Array (Option Value)}
    (a_first_longest : PySem.W.nsIn K mainGlobals "first_longest" = some (some (.ref f_first_longest))) (l_first_longest : K.lookup f_first_longest = some ⟨oc_first_longest, od_first_longest, .func (PySem.W.fnOf "first_longest" "first_longest" (defArgs s_first_longest) (defBody s_first_longest) (defScope s_first_longest) .none kV_first_longest dc_first_longest pm_first_longest an_first_longest cd_first_longest ct_first_longest), sl_first_longest⟩) (e_first_longest : PySem.W.codeIn K cd_first_longest "first_longest" = true) (k_first_longest : PySem.W.keepIn K (.ref f_first_longest) = true)
    {f_common_part : Addr} {oc_common_part kV_common_part dc_common_part pm_common_part cd_common_part ct_common_part : Value} {od_common_part an_common_part : Option Addr} {sl_common_part : Array (Option Value)}
    (a_common_part : PySem.W.nsIn K mainGlobals "common_part" = some (some (.ref f_common_part))) (l_common_part : K.lookup f_common_part = some ⟨oc_common_part, od_common_part, .func (PySem.W.fnOf "common_part" "common_part" (defArgs s_common_part) (defBody s_common_part) (defScope s_common_part) .none kV_common_part dc_common_part pm_common_part an_common_part cd_common_part ct_common_part), sl_common_part⟩) (e_common_part : PySem.W.codeIn K cd_common_part "common_part" = true) (k_common_part : PySem.W.keepIn K (.ref f_common_part) = true)
    {f_common_whole : Addr} {oc_common_whole kV_common_whole dc_common_whole pm_common_whole cd_common_whole ct_common_whole : Value} {od_common_whole an_common_whole : Option Addr} {sl_common_whole : Array (Option Value)}
    (a_common_whole : PySem.W.nsIn K mainGlobals "common_whole" = some (some (.ref f_common_whole))) (l_common_whole : K.lookup f_common_whole = some ⟨oc_common_whole, od_common_whole, .func (PySem.W.fnOf "common_whole" "common_whole" (defArgs s_common_whole) (defBody s_common_whole) (defScope s_common_whole) .none kV_common_whole dc_common_whole pm_common_whole an_common_whole cd_common_whole ct_common_whole), sl_common_whole⟩) (e_common_whole : PySem.W.codeIn K cd_common_whole "common_whole" = true) (k_common_whole : PySem.W.keepIn K (.ref f_common_whole) = true)
    {f_law_pot : Addr} {oc_law_pot kV_law_pot dc_law_pot pm_law_pot cd_law_pot ct_law_pot : Value} {od_law_pot an_law_pot : Option Addr} {sl_law_pot : Array (Option Value)}
    (a_law_pot : PySem.W.nsIn K mainGlobals "_law_pot" = some (some (.ref f_law_pot))) (l_law_pot : K.lookup f_law_pot = some ⟨oc_law_pot, od_law_pot, .func (PySem.W.fnOf "_law_pot" "_law_pot" (defArgs s_law_pot) (defBody s_law_pot) (defScope s_law_pot) .none kV_law_pot dc_law_pot pm_law_pot an_law_pot cd_law_pot ct_law_pot), sl_law_pot⟩) (e_law_pot : PySem.W.codeIn K cd_law_pot "_law_pot" = true) (k_law_pot : PySem.W.keepIn K (.ref f_law_pot) = true)
    {f_law_draw : Addr} {oc_law_draw kV_law_draw dc_law_draw pm_law_draw cd_law_draw ct_law_draw : Value} {od_law_draw an_law_draw : Option Addr} {sl_law_draw : Array (Option Value)}
    (a_law_draw : PySem.W.nsIn K mainGlobals "_law_draw" = some (some (.ref f_law_draw))) (l_law_draw : K.lookup f_law_draw = some ⟨oc_law_draw, od_law_draw, .func (PySem.W.fnOf "_law_draw" "_law_draw" (defArgs s_law_draw) (defBody s_law_draw) (defScope s_law_draw) .none kV_law_draw dc_law_draw pm_law_draw an_law_draw cd_law_draw ct_law_draw), sl_law_draw⟩) (e_law_draw : PySem.W.codeIn K cd_law_draw "_law_draw" = true) (k_law_draw : PySem.W.keepIn K (.ref f_law_draw) = true)
    {f_law_pick : Addr} {oc_law_pick kV_law_pick dc_law_pick pm_law_pick cd_law_pick ct_law_pick : Value} {od_law_pick an_law_pick : Option Addr} {sl_law_pick : Array (Option Value)}
    (a_law_pick : PySem.W.nsIn K mainGlobals "_law_pick" = some (some (.ref f_law_pick))) (l_law_pick : K.lookup f_law_pick = some ⟨oc_law_pick, od_law_pick, .func (PySem.W.fnOf "_law_pick" "_law_pick" (defArgs s_law_pick) (defBody s_law_pick) (defScope s_law_pick) .none kV_law_pick dc_law_pick pm_law_pick an_law_pick cd_law_pick ct_law_pick), sl_law_pick⟩) (e_law_pick : PySem.W.codeIn K cd_law_pick "_law_pick" = true) (k_law_pick : PySem.W.keepIn K (.ref f_law_pick) = true)
    {f_law_text : Addr} {oc_law_text kV_law_text dc_law_text pm_law_text cd_law_text ct_law_text : Value} {od_law_text an_law_text : Option Addr} {sl_law_text : Array (Option Value)}
    (a_law_text : PySem.W.nsIn K mainGlobals "_law_text" = some (some (.ref f_law_text))) (l_law_text : K.lookup f_law_text = some ⟨oc_law_text, od_law_text, .func (PySem.W.fnOf "_law_text" "_law_text" (defArgs s_law_text) (defBody s_law_text) (defScope s_law_text) .none kV_law_text dc_law_text pm_law_text an_law_text cd_law_text ct_law_text), sl_law_text⟩) (e_law_text : PySem.W.codeIn K cd_law_text "_law_text" = true) (k_law_text : PySem.W.keepIn K (.ref f_law_text) = true)
    {f_law_parts : Addr} {oc_law_parts kV_law_parts dc_law_parts pm_law_parts cd_law_parts ct_law_parts : Value} {od_law_parts an_law_parts : Option Addr} {sl_law_parts : Array (Option Value)}
    (a_law_parts : PySem.W.nsIn K mainGlobals "_law_parts" = some (some (.ref f_law_parts))) (l_law_parts : K.lookup f_law_parts = some ⟨oc_law_parts, od_law_parts, .func (PySem.W.fnOf "_law_parts" "_law_parts" (defArgs s_law_parts) (defBody s_law_parts) (defScope s_law_parts) .none kV_law_parts dc_law_parts pm_law_parts an_law_parts cd_law_parts ct_law_parts), sl_law_parts⟩) (e_law_parts : PySem.W.codeIn K cd_law_parts "_law_parts" = true) (k_law_parts : PySem.W.keepIn K (.ref f_law_parts) = true)
    {f_law_common : Addr} {oc_law_common kV_law_common dc_law_common pm_law_common cd_law_common ct_law_common : Value} {od_law_common an_law_common : Option Addr} {sl_law_common : Array (Option Value)}
    (a_law_common : PySem.W.nsIn K mainGlobals "_law_common" = some (some (.ref f_law_common))) (l_law_common : K.lookup f_law_common = some ⟨oc_law_common, od_law_common, .func (PySem.W.fnOf "_law_common" "_law_common" (defArgs s_law_common) (defBody s_law_common) (defScope s_law_common) .none kV_law_common dc_law_common pm_law_common an_law_common cd_law_common ct_law_common), sl_law_common⟩) (e_law_common : PySem.W.codeIn K cd_law_common "_law_common" = true) (k_law_common : PySem.W.keepIn K (.ref f_law_common) = true)
    {f_law_best : Addr} {oc_law_best kV_law_best dc_law_best pm_law_best cd_law_best ct_law_best : Value} {od_law_best an_law_best : Option Addr} {sl_law_best : Array (Option Value)}
    (a_law_best : PySem.W.nsIn K mainGlobals "_law_best" = some (some (.ref f_law_best))) (l_law_best : K.lookup f_law_best = some ⟨oc_law_best, od_law_best, .func (PySem.W.fnOf "_law_best" "_law_best" (defArgs s_law_best) (defBody s_law_best) (defScope s_law_best) .none kV_law_best dc_law_best pm_law_best an_law_best cd_law_best ct_law_best), sl_law_best⟩) (e_law_best : PySem.W.codeIn K cd_law_best "_law_best" = true) (k_law_best : PySem.W.keepIn K (.ref f_law_best) = true)
    {f_law_part_table : Addr} {oc_law_part_table kV_law_part_table dc_law_part_table pm_law_part_table cd_law_part_table ct_law_part_table : Value} {od_law_part_table an_law_part_table : Option Addr} {sl_law_part_table : Array (Option Value)}
    (a_law_part_table : PySem.W.nsIn K mainGlobals "_law_part_table" = some (some (.ref f_law_part_table))) (l_law_part_table : K.lookup f_law_part_table = some ⟨oc_law_part_table, od_law_part_table, .func (PySem.W.fnOf "_law_part_table" "_law_part_table" (defArgs s_law_part_table) (defBody s_law_part_table) (defScope s_law_part_table) .none kV_law_part_table dc_law_part_table pm_law_part_table an_law_part_table cd_law_part_table ct_law_part_table), sl_law_part_table⟩) (e_law_part_table : PySem.W.codeIn K cd_law_part_table "_law_part_table" = true) (k_law_part_table : PySem.W.keepIn K (.ref f_law_part_table) = true)
    {f_law_whole_table : Addr} {oc_law_whole_table kV_law_whole_table dc_law_whole_table pm_law_whole_table cd_law_whole_table ct_law_whole_table : Value} {od_law_whole_table an_law_whole_table : Option Addr} {sl_law_whole_table : Array (Option Value)}
    (a_law_whole_table : PySem.W.nsIn K mainGlobals "_law_whole_table" = some (some (.ref f_law_whole_table))) (l_law_whole_table : K.lookup f_law_whole_table = some ⟨oc_law_whole_table, od_law_whole_table, .func (PySem.W.fnOf "_law_whole_table" "_law_whole_table" (defArgs s_law_whole_table) (defBody s_law_whole_table) (defScope s_law_whole_table) .none kV_law_whole_table dc_law_whole_table pm_law_whole_table an_law_whole_table cd_law_whole_table ct_law_whole_table), sl_law_whole_table⟩) (e_law_whole_table : PySem.W.codeIn K cd_law_whole_table "_law_whole_table" = true) (k_law_whole_table : PySem.W.keepIn K (.ref f_law_whole_table) = true)
    {f_law_bent : Addr} {oc_law_bent kV_law_bent dc_law_bent pm_law_bent cd_law_bent ct_law_bent : Value} {od_law_bent an_law_bent : Option Addr} {sl_law_bent : Array (Option Value)}
    (a_law_bent : PySem.W.nsIn K mainGlobals "_law_bent" = some (some (.ref f_law_bent))) (l_law_bent : K.lookup f_law_bent = some ⟨oc_law_bent, od_law_bent, .func (PySem.W.fnOf "_law_bent" "_law_bent" (defArgs s_law_bent) (defBody s_law_bent) (defScope s_law_bent) .none kV_law_bent dc_law_bent pm_law_bent an_law_bent cd_law_bent ct_law_bent), sl_law_bent⟩) (e_law_bent : PySem.W.codeIn K cd_law_bent "_law_bent" = true) (k_law_bent : PySem.W.keepIn K (.ref f_law_bent) = true)
    {f_law_told_right : Addr} {oc_law_told_right kV_law_told_right dc_law_told_right pm_law_told_right cd_law_told_right ct_law_told_right : Value} {od_law_told_right an_law_told_right : Option Addr} {sl_law_told_right : Array (Option Value)}
    (a_law_told_right : PySem.W.nsIn K mainGlobals "_law_told_right" = some (some (.ref f_law_told_right))) (l_law_told_right : K.lookup f_law_told_right = some ⟨oc_law_told_right, od_law_told_right, .func (PySem.W.fnOf "_law_told_right" "_law_told_right" (defArgs s_law_told_right) (defBody s_law_told_right) (defScope s_law_told_right) .none kV_law_told_right dc_law_told_right pm_law_told_right an_law_told_right cd_law_told_right ct_law_told_right), sl_law_told_right⟩) (e_law_told_right : PySem.W.codeIn K cd_law_told_right "_law_told_right" = true) (k_law_told_right : PySem.W.keepIn K (.ref f_law_told_right) = true)
    {f_law_shortest_right : Addr} {oc_law_shortest_right kV_law_shortest_right dc_law_shortest_right pm_law_shortest_right cd_law_shortest_right ct_law_shortest_right : Value} {od_law_shortest_right an_law_shortest_right : Option Addr} {sl_law_shortest_right : Array (Option Value)}
    (a_law_shortest_right : PySem.W.nsIn K mainGlobals "_law_shortest_right" = some (some (.ref f_law_shortest_right))) (l_law_shortest_right : K.lookup f_law_shortest_right = some ⟨oc_law_shortest_right, od_law_shortest_right, .func (PySem.W.fnOf "_law_shortest_right" "_law_shortest_right" (defArgs s_law_shortest_right) (defBody s_law_shortest_right) (defScope s_law_shortest_right) .none kV_law_shortest_right dc_law_shortest_right pm_law_shortest_right an_law_shortest_right cd_law_shortest_right ct_law_shortest_right), sl_law_shortest_right⟩) (e_law_shortest_right : PySem.W.codeIn K cd_law_shortest_right "_law_shortest_right" = true) (k_law_shortest_right : PySem.W.keepIn K (.ref f_law_shortest_right) = true)
    {f_law_small_right : Addr} {oc_law_small_right kV_law_small_right dc_law_small_right pm_law_small_right cd_law_small_right ct_law_small_right : Value} {od_law_small_right an_law_small_right : Option Addr} {sl_law_small_right : Array (Option Value)}
    (a_law_small_right : PySem.W.nsIn K mainGlobals "_law_small_right" = some (some (.ref f_law_small_right))) (l_law_small_right : K.lookup f_law_small_right = some ⟨oc_law_small_right, od_law_small_right, .func (PySem.W.fnOf "_law_small_right" "_law_small_right" (defArgs s_law_small_right) (defBody s_law_small_right) (defScope s_law_small_right) .none kV_law_small_right dc_law_small_right pm_law_small_right an_law_small_right cd_law_small_right ct_law_small_right), sl_law_small_right⟩) (e_law_small_right : PySem.W.codeIn K cd_law_small_right "_law_small_right" = true) (k_law_small_right : PySem.W.keepIn K (.ref f_law_small_right) = true)
    {f_law_long_right : Addr} {oc_law_long_right kV_law_long_right dc_law_long_right pm_law_long_right cd_law_long_right ct_law_long_right : Value} {od_law_long_right an_law_long_right : Option Addr} {sl_law_long_right : Array (Option Value)}
    (a_law_long_right : PySem.W.nsIn K mainGlobals "_law_long_right" = some (some (.ref f_law_long_right))) (l_law_long_right : K.lookup f_law_long_right = some ⟨oc_law_long_right, od_law_long_right, .func (PySem.W.fnOf "_law_long_right" "_law_long_right" (defArgs s_law_long_right) (defBody s_law_long_right) (defScope s_law_long_right) .none kV_law_long_right dc_law_long_right pm_law_long_right an_law_long_right cd_law_long_right ct_law_long_right), sl_law_long_right⟩) (e_law_long_right : PySem.W.codeIn K cd_law_long_right "_law_long_right" = true) (k_law_long_right : PySem.W.keepIn K (.ref f_law_long_right) = true)
    {f_law_right : Addr} {oc_law_right kV_law_right dc_law_right pm_law_right cd_law_right ct_law_right : Value} {od_law_right an_law_right : Option Addr} {sl_law_right : Array (Option Value)}
    (a_law_right : PySem.W.nsIn K mainGlobals "_law_right" = some (some (.ref f_law_right))) (l_law_right : K.lookup f_law_right = some ⟨oc_law_right, od_law_right, .func (PySem.W.fnOf "_law_right" "_law_right" (defArgs s_law_right) (defBody s_law_right) (defScope s_law_right) .none kV_law_right dc_law_right pm_law_right an_law_right cd_law_right ct_law_right), sl_law_right⟩) (e_law_right : PySem.W.codeIn K cd_law_right "_law_right" = true) (k_law_right : PySem.W.keepIn K (.ref f_law_right) = true)
    {f_law : Addr} {oc_law kV_law dc_law pm_law cd_law ct_law : Value} {od_law an_law : Option Addr} {sl_law : Array (Option Value)}
    (a_law : PySem.W.nsIn K mainGlobals "law" = some (some (.ref f_law))) (l_law : K.lookup f_law = some ⟨oc_law, od_law, .func (PySem.W.fnOf "law" "law" (defArgs s_law) (defBody s_law) (defScope s_law) .none kV_law dc_law pm_law an_law cd_law ct_law), sl_law⟩) (e_law : PySem.W.codeIn K cd_law "law" = true) (k_law : PySem.W.keepIn K (.ref f_law) = true)
    (z_abs : PySem.W.nsIn K mainGlobals "abs" = some none)
    (z_all : PySem.W.nsIn K mainGlobals "all" = some none)
    (z_any : PySem.W.nsIn K mainGlobals "any" = some none)
    (z_divmod : PySem.W.nsIn K mainGlobals "divmod" = some none)
    (z_int : PySem.W.nsIn K mainGlobals "int" = some none)
    (z_isinstance : PySem.W.nsIn K mainGlobals "isinstance" = some none)
    (z_len : PySem.W.nsIn K mainGlobals "len" = some none)
    (z_list : PySem.W.nsIn K mainGlobals "list" = some none)
    (z_max : PySem.W.nsIn K mainGlobals "max" = some none)
    (z_min : PySem.W.nsIn K mainGlobals "min" = some none)
    (z_range : PySem.W.nsIn K mainGlobals "range" = some none)
    (z_repr : PySem.W.nsIn K mainGlobals "repr" = some none)
    (z_sorted : PySem.W.nsIn K mainGlobals "sorted" = some none)
    (z_str : PySem.W.nsIn K mainGlobals "str" = some none)
    {t_SMALL : Tok} (y_SMALL : PySem.W.nsIn K mainGlobals "SMALL" = some (some (.str "abcdefghijklmnopqrstuvwxyz" t_SMALL)))
    {t_MOST_COMMON : Tok} (y_MOST_COMMON : PySem.W.nsIn K mainGlobals "MOST_COMMON" = some (some (.int 60 t_MOST_COMMON)))
    : ∃ T : All K mg, T.f_law = f_law ∧ T.d_law_common.code = cd_law_common := by
  have F_is_text := fun_mk (st := s_is_text) l_is_text e_is_text k_is_text
  have B_is_text := F_is_text.binds (ps := ["value"]) fun _ _ _ _ _ _ us hl => match us, hl with | [_], _ => rfl
  have F_text_key := fun_mk (st := s_text_key) l_text_key e_text_key k_text_key
  have B_text_key := F_text_key.binds (ps := ["text"]) fun _ _ _ _ _ _ us hl => match us, hl with | [_], _ => rfl
  have F_want_few := fun_mk (st := s_want_few) l_want_few e_want_few k_want_few
  have B_want_few := F_want_few.binds (ps := ["what", "many", "limit"]) fun _ _ _ _ _ _ us hl => match us, hl with | [_, _, _], _ => rfl
  have F_want_texts := fun_mk (st := s_want_texts) l_want_texts e_want_texts k_want_texts
  have B_want_texts := F_want_texts.binds (ps := ["texts"]) fun _ _ _ _ _ _ us hl => match us, hl with | [_], _ => rfl
  have F_is_part_of := fun_mk (st := s_is_part_of) l_is_part_of e_is_part_of k_is_part_of
  have B_is_part_of := F_is_part_of.binds (ps := ["text", "whole"]) fun _ _ _ _ _ _ us hl => match us, hl with | [_, _], _ => rfl
  have F_is_part := fun_mk (st := s_is_part) l_is_part e_is_part k_is_part
  have B_is_part := F_is_part.binds (ps := ["text", "whole"]) fun _ _ _ _ _ _ us hl => match us, hl with | [_, _], _ => rfl
  have F_first_longest := fun_mk (st := s_first_longest) l_first_longest e_first_longest k_first_longest
  have B_first_longest := F_first_longest.binds (ps := ["texts"]) fun _ _ _ _ _ _ us hl => match us, hl with | [_], _ => rfl
  have F_common_part := fun_mk (st := s_common_part) l_common_part e_common_part k_common_part
  have B_common_part := F_common_part.binds (ps := ["one", "other"]) fun _ _ _ _ _ _ us hl => match us, hl with | [_, _], _ => rfl
  have F_common_whole := fun_mk (st := s_common_whole) l_common_whole e_common_whole k_common_whole
  have B_common_whole := F_common_whole.binds (ps := ["one", "other"]) fun _ _ _ _ _ _ us hl => match us, hl with | [_, _], _ => rfl
  have F_law_pot := fun_mk (st := s_law_pot) l_law_pot e_law_pot k_law_pot
  have B_law_pot := F_law_pot.binds (ps := ["_law_script", "_law_k"]) fun _ _ _ _ _ _ us hl => match us, hl with | [_, _], _ => rfl
  have F_law_draw := fun_mk (st := s_law_draw) l_law_draw e_law_draw k_law_draw
  have B_law_draw := F_law_draw.binds (ps := ["_law_pot_here", "_law_sides"]) fun _ _ _ _ _ _ us hl => match us, hl with | [_, _], _ => rfl
  have F_law_pick := fun_mk (st := s_law_pick) l_law_pick e_law_pick k_law_pick
  have B_law_pick := F_law_pick.binds (ps := ["_law_pot_here", "_law_some"]) fun _ _ _ _ _ _ us hl => match us, hl with | [_, _], _ => rfl
  have F_law_text := fun_mk (st := s_law_text) l_law_text e_law_text k_law_text
  have B_law_text := F_law_text.binds (ps := ["_law_pot_here", "_law_signs", "_law_most"]) fun _ _ _ _ _ _ us hl => match us, hl with | [_, _, _], _ => rfl
  have F_law_parts := fun_mk (st := s_law_parts) l_law_parts e_law_parts k_law_parts
  have B_law_parts := F_law_parts.binds (ps := ["_law_text_here"]) fun _ _ _ _ _ _ us hl => match us, hl with | [_], _ => rfl
  have F_law_common := fun_mk (st := s_law_common) l_law_common e_law_common k_law_common
  have B_law_common := F_law_common.binds (ps := ["_law_one", "_law_other"]) fun _ _ _ _ _ _ us hl => match us, hl with | [_, _], _ => rfl
  have F_law_best := fun_mk (st := s_law_best) l_law_best e_law_best k_law_best
  have B_law_best := F_law_best.binds (ps := ["_law_some", "_law_way"]) fun _ _ _ _ _ _ us hl => match us, hl with | [_, _], _ => rfl
  have F_law_part_table := fun_mk (st := s_law_part_table) l_law_part_table e_law_part_table k_law_part_table
  have B_law_part_table := F_law_part_table.binds (ps := ["_law_one", "_law_other"]) fun _ _ _ _ _ _ us hl => match us, hl with | [_, _], _ => rfl
  have F_law_whole_table := fun_mk (st := s_law_whole_table) l_law_whole_table e_law_whole_table k_law_whole_table
  have B_law_whole_table := F_law_whole_table.binds (ps := ["_law_one", "_law_other"]) fun _ _ _ _ _ _ us hl => match us, hl with | [_, _], _ => rfl
  have F_law_bent := fun_mk (st := s_law_bent) l_law_bent e_law_bent k_law_bent
  have B_law_bent := F_law_bent.binds (ps := ["_law_pot_here", "_law_signs", "_law_text_here"]) fun _ _ _ _ _ _ us hl => match us, hl with | [_, _, _], _ => rfl
  have F_law_told_right := fun_mk (st := s_law_told_right) l_law_told_right e_law_told_right k_law_told_right
  have B_law_told_right := F_law_told_right.binds (ps := ["_law_one", "_law_other"]) fun _ _ _ _ _ _ us hl => match us, hl with | [_, _], _ => rfl
  have F_law_shortest_right := fun_mk (st := s_law_shortest_right) l_law_shortest_right e_law_shortest_right k_law_shortest_right
  have B_law_shortest_right := F_law_shortest_right.binds (ps := ["_law_one", "_law_other", "_law_whole"]) fun _ _ _ _ _ _ us hl => match us, hl with | [_, _, _], _ => rfl
  have F_law_small_right := fun_mk (st := s_law_small_right) l_law_small_right e_law_small_right k_law_small_right
  have B_law_small_right := F_law_small_right.binds (ps := ["_law_pot_here", "_law_signs"]) fun _ _ _ _ _ _ us hl => match us, hl with | [_, _], _ => rfl
  have F_law_long_right := fun_mk (st := s_law_long_right) l_law_long_right e_law_long_right k_law_long_right
  have B_law_long_right := F_law_long_right.binds (ps := ["_law_pot_here", "_law_signs"]) fun _ _ _ _ _ _ us hl => match us, hl with | [_, _], _ => rfl
  have F_law_right := fun_mk (st := s_law_right) l_law_right e_law_right k_law_right
  have B_law_right := F_law_right.binds (ps := ["_law_pot_here"]) fun _ _ _ _ _ _ us hl => match us, hl with | [_], _ => rfl
  have F_law := fun_mk (st := s_law) l_law e_law k_law
  have B_law := F_law.binds (ps := ["_law_script"]) fun _ _ _ _ _ _ us hl => match us, hl with | [_], _ => rfl
  exact ⟨⟨_, _, ⟨F_is_text, B_is_text, PySem.W.mg_of X G a_is_text⟩,
    _, _, ⟨F_text_key, B_text_key, PySem.W.mg_of X G a_text_key⟩,
    _, _, ⟨F_want_few, B_want_few, PySem.W.mg_of X G a_want_few⟩,
    _, _, ⟨F_want_texts, B_want_texts, PySem.W.mg_of X G a_want_texts⟩,
    _, _, ⟨F_is_part_of, B_is_part_of, PySem.W.mg_of X G a_is_part_of⟩,
    _, _, ⟨F_is_part, B_is_part, PySem.W.mg_of X G a_is_part⟩,
    _, _, ⟨F_first_longest, B_first_longest, PySem.W.mg_of X G a_first_longest⟩,
    _, _, ⟨F_common_part, B_common_part, PySem.W.mg_of X G a_common_part⟩,
    _, _, ⟨F_common_whole, B_common_whole, PySem.W.mg_of X G a_common_whole⟩,
    _, _, ⟨F_law_pot, B_law_pot, PySem.W.mg_of X G a_law_pot⟩,
    _, _, ⟨F_law_draw, B_law_draw, PySem.W.mg_of X G a_law_draw⟩,
    _, _, ⟨F_law_pick, B_law_pick, PySem.W.mg_of X G a_law_pick⟩,
    _, _, ⟨F_law_text, B_law_text, PySem.W.mg_of X G a_law_text⟩,
    _, _, ⟨F_law_parts, B_law_parts, PySem.W.mg_of X G a_law_parts⟩,
    _, _, ⟨F_law_common, B_law_common, PySem.W.mg_of X G a_law_common⟩,
    _, _, ⟨F_law_best, B_law_best, PySem.W.mg_of X G a_law_best⟩,
    _, _, ⟨F_law_part_table, B_law_part_table, PySem.W.mg_of X G a_law_part_table⟩,
    _, _, ⟨F_law_whole_table, B_law_whole_table, PySem.W.mg_of X G a_law_whole_table⟩,
    _, _, ⟨F_law_bent, B_law_bent, PySem.W.mg_of X G a_law_bent⟩,
    _, _, ⟨F_law_told_right, B_law_told_right, PySem.W.mg_of X G a_law_told_right⟩,
    _, _, ⟨F_law_shortest_right, B_law_shortest_right, PySem.W.mg_of X G a_law_shortest_right⟩,
    _, _, ⟨F_law_small_right, B_law_small_right, PySem.W.mg_of X G a_law_small_right⟩,
    _, _, ⟨F_law_long_right, B_law_long_right, PySem.W.mg_of X G a_law_long_right⟩,
    _, _, ⟨F_law_right, B_law_right, PySem.W.mg_of X G a_law_right⟩,
    _, _, ⟨F_law, B_law, PySem.W.mg_of X G a_law⟩,
    PySem.W.mg_none_of X G z_abs,
    PySem.W.mg_none_of X G z_all,
    PySem.W.mg_none_of X G z_any,
    PySem.W.mg_none_of X G z_divmod,
    PySem.W.mg_none_of X G z_int,
    PySem.W.mg_none_of X G z_isinstance,
    PySem.W.mg_none_of X G z_len,
    PySem.W.mg_none_of X G z_list,
    PySem.W.mg_none_of X G z_max,
    PySem.W.mg_none_of X G z_min,
    PySem.W.mg_none_of X G z_range,
    PySem.W.mg_none_of X G z_repr,
    PySem.W.mg_none_of X G z_sorted,
    PySem.W.mg_none_of X G z_str,
    ⟨_, PySem.W.mg_of X G y_SMALL⟩,
    ⟨_, PySem.W.mg_of X G y_MOST_COMMON⟩⟩, rfl, rfl⟩
end Lw
open PySem PySem.W PyProof.Rows
set_option maxRecDepth 100000 in
set_option maxHeartbeats 0 in
theorem PySem.Challenge.cw_missedparts_k13_whole_common_parts_and_w_holds : PySem.Challenge.rw_missedparts_k13_whole_common_parts_and_w.Holds := by
  w_on; o_law; k_head; (case hw => w_witness2)
  k_fill
  refine Att.attach_callB rfl rfl fun w s₀ s₁ mg mb fa o pm cd doc a vs ns G Y ho hd hcd hmg hobj hints hlen hbits hg => ?_
  have KX := PySem.W.km_in_of Y
  have GG := G.T.g
  refine' Lw.fin KX GG G.T.b G.T.builtins G.T.nolimit hg (PySem.W.km_tabs_of Y _ (List.mem_singleton.mpr rfl)) ?nT ?hC G.T.bmain hobj hints (Nat.le_trans hlen (by decide)) hmg (Lw.all_mk KX GG ?a_is_text ?l_is_text ?e_is_text ?k_is_text ?a_text_key ?l_text_key ?e_text_key ?k_text_key ?a_want_few ?l_want_few ?e_want_few ?k_want_few ?a_want_texts ?l_want_texts ?e_want_texts ?k_want_texts ?a_is_part_of ?l_is_part_of ?e_is_part_of ?k_is_part_of ?a_is_part ?l_is_part ?e_is_part ?k_is_part ?a_first_longest ?l_first_longest ?e_first_longest ?k_first_longest ?a_common_part ?l_common_part ?e_common_part ?k_common_part ?a_common_whole ?l_common_whole ?e_common_whole ?k_common_whole ?a_law_pot ?l_law_pot ?e_law_pot ?k_law_pot ?a_law_draw ?l_law_draw ?e_law_draw ?k_law_draw ?a_law_pick ?l_law_pick ?e_law_pick ?k_law_pick ?a_law_text ?l_law_text ?e_law_text ?k_law_text ?a_law_parts ?l_law_parts ?e_law_parts ?k_law_parts ?a_law_common ?l_law_common ?e_law_common ?k_law_common ?a_law_best ?l_law_best ?e_law_best ?k_law_best ?a_law_part_table ?l_law_part_table ?e_law_part_table ?k_law_part_table ?a_law_whole_table ?l_law_whole_table ?e_law_whole_table ?k_law_whole_table ?a_law_bent ?l_law_bent ?e_law_bent ?k_law_bent ?a_law_told_right ?l_law_told_right ?e_law_told_right ?k_law_told_right ?a_law_shortest_right ?l_law_shortest_right ?e_law_shortest_right ?k_law_shortest_right ?a_law_small_right ?l_law_small_right ?e_law_small_right ?k_law_small_right ?a_law_long_right ?l_law_long_right ?e_law_long_right ?k_law_long_right ?a_law_right ?l_law_right ?e_law_right ?k_law_right ?a_law ?l_law ?e_law ?k_law ?z_abs ?z_all ?z_any ?z_divmod ?z_int ?z_isinstance ?z_len ?z_list ?z_max ?z_min ?z_range ?z_repr ?z_sorted ?z_str ?y_SMALL ?y_MOST_COMMON)
  (case a_is_text => k_is); (case l_is_text => k_is); (case e_is_text => k_is); (case k_is_text => k_is); (case a_text_key => k_is); (case l_text_key => k_is); (case e_text_key => k_is); (case k_text_key => k_is); (case a_want_few => k_is); (case l_want_few => k_is); (case e_want_few => k_is); (case k_want_few => k_is); (case a_want_texts => k_is); (case l_want_texts => k_is); (case e_want_texts => k_is); (case k_want_texts => k_is); (case a_is_part_of => k_is); (case l_is_part_of => k_is); (case e_is_part_of => k_is); (case k_is_part_of => k_is); (case a_is_part => k_is); (case l_is_part => k_is); (case e_is_part => k_is); (case k_is_part => k_is); (case a_first_longest => k_is); (case l_first_longest => k_is); (case e_first_longest => k_is); (case k_first_longest => k_is); (case a_common_part => k_is); (case l_common_part => k_is); (case e_common_part => k_is); (case k_common_part => k_is); (case a_common_whole => k_is); (case l_common_whole => k_is); (case e_common_whole => k_is); (case k_common_whole => k_is); (case a_law_pot => k_is); (case l_law_pot => k_is); (case e_law_pot => k_is); (case k_law_pot => k_is); (case a_law_draw => k_is); (case l_law_draw => k_is); (case e_law_draw => k_is); (case k_law_draw => k_is); (case a_law_pick => k_is); (case l_law_pick => k_is); (case e_law_pick => k_is); (case k_law_pick => k_is); (case a_law_text => k_is); (case l_law_text => k_is); (case e_law_text => k_is); (case k_law_text => k_is); (case a_law_parts => k_is); (case l_law_parts => k_is); (case e_law_parts => k_is); (case k_law_parts => k_is); (case a_law_common => k_is); (case l_law_common => k_is); (case e_law_common => k_is); (case k_law_common => k_is); (case a_law_best => k_is); (case l_law_best => k_is); (case e_law_best => k_is); (case k_law_best => k_is); (case a_law_part_table => k_is); (case l_law_part_table => k_is); (case e_law_part_table => k_is); (case k_law_part_table => k_is); (case a_law_whole_table => k_is); (case l_law_whole_table => k_is); (case e_law_whole_table => k_is); (case k_law_whole_table => k_is); (case a_law_bent => k_is); (case l_law_bent => k_is); (case e_law_bent => k_is); (case k_law_bent => k_is); (case a_law_told_right => k_is); (case l_law_told_right => k_is); (case e_law_told_right => k_is); (case k_law_told_right => k_is); (case a_law_shortest_right => k_is); (case l_law_shortest_right => k_is); (case e_law_shortest_right => k_is); (case k_law_shortest_right => k_is); (case a_law_small_right => k_is); (case l_law_small_right => k_is); (case e_law_small_right => k_is); (case k_law_small_right => k_is); (case a_law_long_right => k_is); (case l_law_long_right => k_is); (case e_law_long_right => k_is); (case k_law_long_right => k_is); (case a_law_right => k_is); (case l_law_right => k_is); (case e_law_right => k_is); (case k_law_right => k_is); (case a_law => k_is); (case l_law => k_is); (case e_law => k_is); (case k_law => k_is); (case z_abs => k_is); (case z_all => k_is); (case z_any => k_is); (case z_divmod => k_is); (case z_int => k_is); (case z_isinstance => k_is); (case z_len => k_is); (case z_list => k_is); (case z_max => k_is); (case z_min => k_is); (case z_range => k_is); (case z_repr => k_is); (case z_sorted => k_is); (case z_str => k_is); (case y_SMALL => k_is); (case y_MOST_COMMON => k_is)
  (case nT => kernel_rfl)
  (case hC => kernel_rfl)
