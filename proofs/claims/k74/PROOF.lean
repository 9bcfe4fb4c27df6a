import PyProof.Rows.All
import Wide.All
import OpenK.AllK
import Wide.FinOn
import HandS.ForMost
import HandS.SortKw
import HandS.EndTab
import HandS.IsInst
import HandS.StrMore
import HandS.TupLe
import HandS.WideBits
import HandS.Walk
import HandS.Deep
import HandS.ListItems
import HandS.Conv
import HandS.More
import PyProof.ReprRoads
import KE.SortKeyHeap
import KE.KDictCopyH
import PyProof.ReprLen
import KE.DataMinKey
import HandS.Set
import HandS.Strs
import HandS.Property
import HandS.OwnEq
import HandS.FStr
import OpenK.KOps
import OpenK.KMeth
import KE.GoesZip
import KE.GoesMore
import KE.GoesEnum
import KE.KIsAll
import HandS.Replace
import HandS.ClsMeth
import PyProof.StrLawsFirst
import HandS.MakeKwOnly
import KE.KOpsOwn
import HandS.Exc
import HandS.ExcInit
import KE.KExcSuper
import KE.KEqNest
import PyProof.ReprReads
import HandS.TryOnly
import HandS.ExcOwn
import HandS.WordsExc
import HandS.ExcField
import HandS.ExcIs
import PyProof.ExcBaseAll.ValueError
import PyProof.ExcBaseAll.RuntimeError
import PyProof.ExcBaseAll.ArithmeticError
import PySem.Challenge.RW_missedparts_k74_whole_kinds_and_goals_tu
import HandS.Style
set_option Elab.async false
set_option linter.all false
set_option maxRecDepth 100000
set_option maxHeartbeats 4000000
/-! Defs that know that no repr is under way. -/
namespace L3
open PySem PySem.Spec PyProof.Rows L2
/-- as FnOk, where no guard stands around -/
structure FnOkG (P : Program) (w : World) (K : PySem.W.Frag) (mg : Str → Option Value) (base : Heap) (CX : CXT) (k : Nat) (f : Addr) (fd : FuncData) (ps : List Str) (sp : Sp) : Prop where
  len : ∀ vs H Q E, sp vs H Q E → vs.length = ps.length
  run : ∀ (A : Around) (outer : List Env) (s : Shared) (H : Hp) (args : Args) (us : List Value) (vs : List V) (Q : VK) (E : XK), Room k A → A.guards = some [] → Env0 P w K mg base A outer s H → BindsTo s fd args (ps.zip us) → Vals vs us → sp vs H Q E →
    codeAny (model P w) A (.call (.ref f) args) (CR CX outer P w H s Q E) s
theorem FnOkG.of {P : Program} {w : World} {K : PySem.W.Frag} {mg : Str → Option Value} {base : Heap} {CX : CXT} {k : Nat} {f : Addr} {fd : FuncData} {ps : List Str} {sp : Sp} (F : FnOk P w K mg base CX k f fd ps sp) : FnOkG P w K mg base CX k f fd ps sp :=
  ⟨F.len, fun A outer s H args us vs Q E hr _ => F.run A outer s H args us vs Q E hr⟩
theorem FnOkG.mono {P : Program} {w : World} {K : PySem.W.Frag} {mg : Str → Option Value} {base : Heap} {CX : CXT} {j k : Nat} {f : Addr} {fd : FuncData} {ps : List Str} {sp : Sp} (F : FnOkG P w K mg base CX j f fd ps sp) (h : j ≤ k) : FnOkG P w K mg base CX k f fd ps sp :=
  ⟨F.len, fun A outer s H args us vs Q E hr => F.run A outer s H args us vs Q E (hr.mono h)⟩
section
variable {P : Program} {w : World} {K : PySem.W.Frag} {mg : Str → Option Value} {base : Heap}
theorem fn_ofG {CX : CXT} {k : Nat} {f : Addr} {name qual : Str} {params : Arguments} {body : List Stmt} {scope : Scope} {dV kV doc pm cdv ct oc : Value} {an od : Option Addr}
    {osl : Array (Option Value)} {N ps : List Str} {sp : Sp} (lk : K.lookup f = some ⟨oc, od, .func (PySem.W.fnOf name qual params body scope dV kV doc pm an cdv ct), osl⟩) (hcd : PySem.W.codeIn K cdv qual = true) (S : FnScope N ps scope)
    (len : ∀ vs H Q E, sp vs H Q E → vs.length = ps.length)
    (hbody : ∀ (A : Around) (outer : List Env) (s : Shared) (H : Hp) (vs : List V) (Q : VK) (E : XK), Room k (A.deeper (envOfC qual scope s.heap.objs.size f cdv)) → A.guards = some [] → sp vs H Q E →
      ∃ t, PSs (cxOf CX P w K mg base N qual scope f cdv A outer s H E) body t ∧ t { nx := fun _ H' => Q .non H', rt := Q } (L2.start N vs) H) :
    FnOkG P w K mg base CX (k + 1) f (PySem.W.fnOf name qual params body scope dV kV doc pm an cdv ct) ps sp := by
  refine ⟨len, fun A outer s H args us vs Q E hr hg e0 hb r hsp => ?_⟩
  exact LamX.run_ofS lk hcd S hr e0 hb r (len _ _ _ _ hsp) fun hr' => hbody A outer s H vs Q E hr' hg hsp
theorem okG {x qual : Str} {st : Stmt} {f : Addr} {fd : FuncData} {N ps : List Str} {k : Nat} {sp : Sp} (F : Fun K x qual st f fd) (S : FnScope N ps (defScope st)) (len : ∀ vs H Q E, sp vs H Q E → vs.length = ps.length)
    (hbody : ∀ (cdv : Value) (A : Around) (outer : List Env) (s : Shared) (H : Hp) (vs : List V) (Q : VK) (E : XK), Room k (A.deeper (envOfC qual (defScope st) s.heap.objs.size f cdv)) → A.guards = some [] → sp vs H Q E →
      ∃ t, PSs (cxOf CX0 P w K mg base N qual (defScope st) f cdv A outer s H E).nox (defBody st) t ∧ t { nx := fun _ H' => Q .non H', rt := Q } (L2.start N vs) H) : FnOkG P w K mg base CX0 (k + 1) f fd ps sp := by
  obtain ⟨oc, od, kV, doc, pm, an, cdv, ct, osl, rfl, lk, hcd⟩ := F.ex
  refine fn_ofG lk hcd S len fun A outer s H vs Q E hr hg hsp => ?_
  obtain ⟨t, h, q⟩ := hbody cdv A outer s H vs Q E hr hg hsp
  exact ⟨t, h.nox, q⟩
end
section
variable {X : Cx} {CX : CXT} {k : Nat} {f : Addr} {fd : FuncData} {ps ks : List Str} {sp : Sp} {E : XK} {x : Str} {p pos : Pos} {e : Expr} {es : List Expr} {kws : List Keyword} {t tk : TA} {g : List Value → List Value → List Value} {gV : List V → List V → List V}
theorem run_fnG {pins : List (Addr × Obj)} {σ : L2.St} {H : Hp} {s : Shared} {Q : VK} {us ws : List Value} {vs : List V} {kw : List (Str × Value)} (F : FnOkG X.prog X.w X.K X.mg X.base CX k f fd ps sp) (hr : Room k X.A) (hG : X.A.guards = some []) (hx : Passes CX X E)
    (I : Inv X pins σ H s) (hb : BindsTo s fd ⟨us, kw⟩ (ps.zip ws)) (r : Vals vs ws) (h : sp vs H Q E) : wpAny (model X.prog X.w) X.A (call (.ref f) us kw) (EP X pins σ Q) X.xe s := by
  refine wpAny_call (codeAny_mono (F.run X.A X.stack s H ⟨us, kw⟩ ws vs Q E hr hG I.env0 hb r h) fun r s' hq => ?_)
  cases r with
  | error e => exact hx pins σ H s e s' I hq
  | ok fl =>
    cases fl with
    | ret u => exact I.after hq
    | next => exact False.elim hq
    | brk => exact False.elim hq
    | cont => exact False.elim hq
/-- f(e, ..) -/
theorem pe_callG (F : FnOkG X.prog X.w X.K X.mg X.base CX k f fd ps sp) (hr : Room k X.A) (hG : X.A.guards = some []) (hg : Gl X x) (hm : X.mg x = some (.ref f)) (hk : PySem.W.keepIn X.K (.ref f) = true) (hb : L2.Binds X.K fd ps []) (hx : Passes CX X E)
    (ha : PA X (e :: es) t) (hdb : (x == ("__debug__" : Str)) = false := by decide) (he : starEach (e :: es) X.env = (false, eval e X.env) :: starEach es X.env := by rfl) (hpl : (backTo pos (starEach es X.env)).any (·.1) = false := by rfl) :
    PE X (.Call (.Name x p) (e :: es) [] pos) (tCall sp [] E t) := by
  refine ⟨fun pins s σ H Q I h => ?_⟩
  refine wpAny_Call_Name_kw (ld_glob I hg hm ?_ hdb)
  refine PySem.W.callWith_K (h₀ := X.base) I.ok.mod.kin hk (thn (ha.run pos pins s σ H _ I h) fun us s1 ⟨vs, H1, I1, r, q⟩ => ⟨I1.kIn, ?_⟩) he hpl
  have q : sp (vs ++ []) H1 Q E := q
  rw [List.append_nil] at q
  have hl : (us ++ []).length = ps.length := by rw [List.append_nil, ← r.length]; exact F.len _ _ _ _ q
  exact run_fnG F hr hG hx I1 (hb s1 us I1.kIn hl) (by rw [List.append_nil]; exact r) q
/-- f(k = v, ..), keywords alone -/
theorem pe_callK0 (F : FnOkG X.prog X.w X.K X.mg X.base CX k f fd ps sp) (hr : Room k X.A) (hG : X.A.guards = some []) (hg : Gl X x) (hm : X.mg x = some (.ref f)) (hk : PySem.W.keepIn X.K (.ref f) = true) (hb : KBinds X.K fd ps ks g gV) (hx : Passes CX X E)
    (hkw : PK X kws tk) (hall : (backToKw pos (keywordEach kws X.env)).all (·.1.isSome) = true := by rfl) (hks : (backToKw pos (keywordEach kws X.env)).filterMap (·.1) = ks := by rfl)
    (hdb : (x == ("__debug__" : Str)) = false := by decide)
    (hpl : ((backTo pos (starEach [] X.env)).any (·.1) || (backToKw pos (keywordEach kws X.env)).any (·.1.isNone)) = false := by rfl) :
    PE X (.Call (.Name x p) [] kws pos) (tCallK sp gV E tNil tk) := by
  refine ⟨fun pins s σ H Q I h => ?_⟩
  refine wpAny_Call_Name_kw (ld_glob I hg hm ?_ hdb)
  refine PySem.W.callWith_KW0 (h₀ := X.base) I.ok.mod.kin hk hall (thn (hkw.run pos pins s σ H _ I h) fun ws s2 ⟨zs, H2, I2, rz, q2⟩ => ⟨I2.kIn, ?_⟩) hpl
  rw [hks]
  have r2 := hb.rel (vs := []) (us := []) .nil rz
  have hl : (g [] ws).length = ps.length := by rw [← r2.length]; exact F.len _ _ _ _ q2
  exact run_fnG F hr hG hx I2 (hb.to s2 [] ws I2.kIn hl) r2 q2
end
end L3
/-! Rules for texts as lists of codes, repr of data, list(text), list(d.values()). -/
namespace L3
open PySem PySem.Spec PyProof.Rows L2
/-- a text by its codes -/
abbrev tS (l : List Nat) : Str := ⟨l.toArray⟩
abbrev tx (l : List Nat) : V := .str (tS l)
theorem tS_len (l : List Nat) : (tS l).length = l.length := by show l.toArray.size = _; simp
theorem tS_inj {a b : List Nat} (h : tS a = tS b) : a = b := by
  have h2 : a.toArray = b.toArray := congrArg Str.cps h
  simpa using congrArg Array.toList h2
theorem tS_eq (x : Str) : x = tS x.cps.toList := by cases x; simp [tS]
theorem tS_app (a b : List Nat) : tS a ++ tS b = tS (a ++ b) := by
  show (⟨a.toArray ++ b.toArray⟩ : Str) = _
  simp
theorem tx_inj {a b : List Nat} (h : tx a = tx b) : a = b := tS_inj (V.str.inj h)
theorem tx_dec (a b : List Nat) : decide (tx a = tx b) = decide (a = b) := by
  by_cases e : a = b
  · subst e; simp
  · rw [decide_eq_false e, decide_eq_false fun h => e (tx_inj h)]
section
variable {X : Cx}
theorem op_addT : OpR X (binaryOp .Add) (fun x y H Q => ∃ a b, x = tx a ∧ y = tx b ∧ a.length + b.length ≤ sizeLine ∧ Q (tx (a ++ b)) H) := by
  intro pins s σ H x y v u Q I rx ry h
  obtain ⟨a, b, rfl, rfl, hz, q⟩ := h
  exact op_add_str pins s σ H _ _ v u Q I rx ry ⟨_, _, rfl, rfl, by rw [tS_len, tS_len]; exact hz, by rw [tS_app]; exact q⟩
/-- a * n -/
def repL : Nat → List Nat → List Nat
  | 0, _ => []
  | n + 1, l => l ++ repL n l
theorem repL_len (n : Nat) (l : List Nat) : (repL n l).length = n * l.length := by
  induction n with
  | zero => simp [repL]
  | succ n ih => rw [repL, List.length_append, ih, Nat.succ_mul]; omega
theorem fold_rep (l : List Nat) : ∀ (n : Nat) (acc : Array Nat), (List.replicate n l.toArray).foldl (· ++ ·) acc = acc ++ (repL n l).toArray
  | 0, acc => by simp [repL]
  | n + 1, acc => by
    rw [List.replicate_succ, List.foldl_cons, fold_rep l n, repL]
    simp
theorem mul_tS (l : List Nat) (n : Nat) : Txt.mul (tS l) (n : Int) = tS (repL n l) := by
  unfold Txt.mul
  by_cases h : (n : Int) < 1
  · rw [if_pos h]
    have e : n = 0 := by omega
    subst e
    rfl
  · rw [if_neg h]
    split
    · rename_i hc
      rw [Bool.or_eq_true] at hc
      rcases hc with hc | hc
      · have e : n = 1 := by
          have := of_decide_eq_true hc
          omega
        subst e
        simp [repL]
      · have e : (tS l).length = 0 := by simpa using hc
        rw [tS_len] at e
        have e2 : l = [] := List.eq_nil_of_length_eq_zero e
        subst e2
        have : ∀ n, repL n [] = [] := fun n => by
          induction n with
          | zero => rfl
          | succ n ih => rw [repL, ih]; rfl
        rw [this]
    · rw [Int.toNat_natCast, fold_rep]
      simp
theorem op_mulT : OpR X (binaryOp .Mult) (fun x y H Q => ∃ (a : List Nat) (n : Nat), x = tx a ∧ y = .int (n : Int) ∧ n ≤ 1000000 ∧ a.length * n ≤ 1000000 ∧ Q (tx (repL n a)) H) := by
  intro pins s σ H x y v u Q I rx ry h
  obtain ⟨a, n, rfl, rfl, hn, hz, q⟩ := h
  obtain ⟨t, rfl⟩ := rx
  obtain ⟨t', rfl⟩ := ry
  have e63 : (2 : Int) ^ 63 = 9223372036854775808 := by decide
  refine SB.mul ⟨?_, fun h1 _ => ?_, fun _ _ => ?_⟩ fun t' k => ?_
  · rw [e63]
    simp only [Bool.or_eq_false_iff, decide_eq_false_iff_not]
    omega
  · rw [e63, tS_len]
    have hp : (0 : Int) < (n : Int) := by omega
    have hz2 : (a.length : Int) * (n : Int) ≤ 1000000 := by rw [← Int.natCast_mul]; exact Int.ofNat_le.mpr hz
    have h3 : (a.length : Int) ≤ (9223372036854775808 - 1) / (n : Int) := (Int.le_ediv_iff_mul_le hp).mpr (by omega)
    omega
  · rw [tS_len, Int.toNat_natCast]
    show decide (a.length * n > sizeLine) = false
    rw [sizeLine_eq]
    exact decide_eq_false (by omega)
  · rw [mul_tS]
    exact ⟨tx (repL n a), H, I.tok _, ⟨_, rfl⟩, q⟩
/-! ### slices of texts -/
theorem cut_pre (l : List Nat) (i : Nat) : cutS (tS l) none (some (i : Int)) = tS (l.take i) := by
  unfold cutS
  rw [HT.sIx_none, HT.sIx_nat, tS_len]
  show tS _ = _
  congr 1
  show (List.drop 0 l).take (min i l.length - 0) = l.take i
  rw [List.drop_zero, Nat.sub_zero]
  by_cases h : i ≤ l.length
  · rw [Nat.min_eq_left h]
  · rw [Nat.min_eq_right (by omega), List.take_of_length_le (Nat.le_refl _), List.take_of_length_le (by omega)]
theorem cut_suf (l : List Nat) (i : Nat) : cutS (tS l) (some (i : Int)) none = tS (l.drop i) := by
  unfold cutS
  rw [HT.sIx_none, HT.sIx_nat, tS_len]
  show tS _ = _
  congr 1
  show (List.drop (min i l.length) l).take (l.length - min i l.length) = l.drop i
  by_cases h : i ≤ l.length
  · rw [Nat.min_eq_left h, List.take_of_length_le (by rw [List.length_drop]; exact Nat.le_refl _)]
  · rw [Nat.min_eq_right (by omega), List.drop_of_length_le (Nat.le_refl _), List.drop_of_length_le (by omega)]
    simp
def rSlT' : V → Option Int → Option Int → Hp → VK → Prop := fun x lo hi H Q => ∃ l, x = tx l ∧ l.length ≤ sizeLine ∧
  ((lo = none ∧ ∃ i : Nat, hi = some (i : Int) ∧ Q (tx (l.take i)) H) ∨ (hi = none ∧ ∃ i : Nat, lo = some (i : Int) ∧ Q (tx (l.drop i)) H))
theorem sl_tx : SlR X rSlT' := by
  intro pins s σ H x v vl vu lo hi sl Q I rx hs pl pu h
  obtain ⟨l, rfl, hz, h⟩ := h
  refine sl_str pins s σ H _ v vl vu lo hi sl Q I rx hs pl pu ⟨_, rfl, by rw [tS_len]; exact hz, ?_⟩
  rcases h with ⟨rfl, i, rfl, q⟩ | ⟨rfl, i, rfl, q⟩
  · rw [cut_pre]; exact q
  · rw [cut_suf]; exact q
/-! ### slices of texts with a step -/
def stepL (l : List Nat) (k : Int) : List Nat := (Builtin.Str.strSliceIndices none none k l.length).filterMap (l[·]?)
theorem stepL_mem {l : List Nat} {k : Int} {c : Nat} (h : c ∈ stepL l k) : c ∈ l := by
  unfold stepL at h
  obtain ⟨i, _, e⟩ := List.mem_filterMap.mp h
  exact List.mem_of_getElem? e
theorem filterMap_len {α β : Type} (f : α → Option β) : ∀ l : List α, (l.filterMap f).length ≤ l.length
  | [] => Nat.le_refl _
  | a :: l => by
    have := filterMap_len f l
    rw [List.filterMap_cons]
    split
    · rw [List.length_cons]; omega
    · rw [List.length_cons, List.length_cons]; omega
theorem stepL_two (l : List Nat) : (stepL l 2).length ≤ l.length := by
  refine Nat.le_trans (filterMap_len _ _) ?_
  show (sliceRange 0 (l.length : Int) 2).length ≤ l.length
  unfold sliceRange
  simp only [List.length_map, List.length_range]
  rw [if_pos (by decide : (2 : Int) > 0)]
  by_cases h : (0 : Int) < (l.length : Int)
  · rw [if_pos h]
    omega
  · rw [if_neg h]
    simp
theorem stepL_rev (l : List Nat) : stepL l (-1) = l.reverse := by
  unfold stepL Builtin.Str.strSliceIndices
  show (sliceRange ((l.length : Int) - 1) (-1) (-1)).filterMap (l[·]?) = _
  rw [PySem.W.krv_sliceRange, PySem.W.krv_range, List.filterMap_reverse]
  have h := PySem.W.krv_all l.toArray
  congr 1
  have e : (fun i : Nat => l[i]?) = (fun i : Nat => l.toArray[i]?) := by
    funext i
    simp
  rw [e]
  simpa using h
def tStep (k : Int) (te : TE) : TE := fun σ H Q => te σ H fun x H1 => ∃ l, x = tx l ∧ l.length ≤ sizeLine ∧ (stepL l k).length ≤ sizeLine ∧ Q (tx (stepL l k)) H1
theorem pe_step {e st : Expr} {te ts : TE} {k : Int} {p3 pos : Pos} (he : PE X e te) (hst : PE X st ts) (hk : ∀ σ H (Q : VK), Q (.int k) H → ts σ H Q) (k1 : (k == 1) = false) (k0 : (k == 0) = false) : PE X (.Subscript e (.Slice none none (some st) p3) pos) (tStep k te) := by
  refine ⟨fun pins s σ H Q I h => ?_⟩
  refine Subscript_ (thn (he.run pins s σ H _ I h) fun v s1 ⟨x, H1, I1, r1, q1⟩ => ?_)
  obtain ⟨l, ex, hz, hz2, q⟩ := q1
  subst ex
  obtain ⟨t, rfl⟩ := r1
  have hso : PO X (some st) (tPart ts) := po_some hst
  refine wpAny_Slice (thn (po_none.run pins s1 σ H1 (fun o H2 => o = none ∧ H2 = H1) I1 ⟨rfl, rfl⟩) fun vl s2 ⟨lo, H2, I2, pl, el, e2⟩ => ?_)
  subst el e2
  refine thn (po_none.run pins s2 σ H2 (fun o H3 => o = none ∧ H3 = H2) I2 ⟨rfl, rfl⟩) fun vu s3 ⟨u, H3, I3, pu, eu, e3⟩ => ?_
  subst eu e3
  refine thn (hso.run pins s3 σ H3 (fun o H4 => o = some k ∧ H4 = H3) I3 (hk _ _ _ ⟨k, rfl, rfl, rfl⟩)) fun vs s4 ⟨o, H4, I4, ps, eo, e4⟩ => ?_
  subst eo e4
  have I5 : Inv X pins σ H4 { s4 with heap := s4.heap.push { cls := .type "slice", data := .fields #[vl, vu, vs] } } := I4.kept (t' := s4.toks) fun b ob q => Heap.get?_push_of_some _ q
  show wpAny (model X.prog X.w) X.A (subscriptTail e (.Slice none none (some st) p3) (.str (tS l) t) (.ref s4.heap.objs.size)) (EP X pins σ Q) X.xe { s4 with heap := s4.heap.push { cls := .type "slice", data := .fields #[vl, vu, vs] } }
  refine tail_any (ops := [.ref s4.heap.objs.size, .str (tS l) t]) (typeIs_str _ _ _) (F.slot_str_getitem.lookup) ?_ (by with_unfolding_all rfl)
  obtain ⟨l', rfl, e1⟩ := IsPart.raw pl
  obtain ⟨u', rfl, e2⟩ := IsPart.raw pu
  obtain ⟨k', rfl, e3⟩ := IsPart.raw ps
  have n1 : l' = none := by cases l' with | none => rfl | some a => cases e1
  have n2 : u' = none := by cases u' with | none => rfl | some a => cases e2
  subst n1 n2
  have e4 : (k'.map (·.1)).getD 1 = k := by rw [e3]; rfl
  refine wpAny_getItem_str_slice (l := none) (u := none) (st := k') ⟨_, Heap.get?_push_size _ rfl, rfl, rfl⟩ (by rw [e4]; exact k0) ?_
  have e5 : sliceMade (tS l) t none none k' = .str (tS (stepL l k)) := by
    unfold sliceMade slicePicked
    rw [e4, k1, Bool.false_and, if_neg Bool.false_ne_true]
    unfold stepL
    rw [tS_len]
    have e6 : (fun i : Nat => (tS l).cps[i]?) = (fun i : Nat => l[i]?) := by
      funext i
      simp [tS]
    show Made.str (tS (List.filterMap (fun i : Nat => (tS l).cps[i]?) _)) = _
    rw [e6]
    rfl
  rw [e5]
  exact ⟨by rw [tS_len]; exact hz2, tx (stepL l k), H4, I5.tok _, ⟨_, rfl⟩, q⟩
end
end L3
/-! repr of data, list(text), list(d.values()). -/
namespace L3
open PySem PySem.Spec PyProof.Rows L2
mutual
theorem dp_noDict {K : PySem.W.Frag} {H : Hp} : ∀ {v : V} {d : PyData}, Dp K H v d → d.hasDict = false
  | _, .none, _ => by simp only [PyData.hasDict]
  | _, .bool _, _ => by simp only [PyData.hasDict]
  | _, .int _, _ => by simp only [PyData.hasDict]
  | _, .str _, _ => by simp only [PyData.hasDict]
  | _, .list ds, h => by
    cases h with
    | lst hs ha => simp only [PyData.hasDict]; exact dpAll_noDict ha
  | _, .tuple ds, h => by
    cases h with
    | tup hs ha => simp only [PyData.hasDict]; exact dpAll_noDict ha
  | _, .dict _, h => by cases h
theorem dpAll_noDict {K : PySem.W.Frag} {H : Hp} : ∀ {vs : List V} {ds : List PyData}, DpAll K H vs ds → PyData.hasDictAll ds = false
  | _, [], _ => by simp only [PyData.hasDictAll]
  | _, d :: ds, h => by
    cases h with
    | cons h1 h2 => simp only [PyData.hasDictAll, dp_noDict h1, dpAll_noDict h2, Bool.or_self]
end
theorem len_toL (acc : Array Value) : acc.toList.length = acc.size := by simp
section
variable {X : Cx}
/-- repr(x) of data: none, bools, ints, texts, lists, tuples -/
def rRepr (K : PySem.W.Frag) : List V → Hp → VK → Prop := fun xs H Q => ∃ (x : V) (d : PyData), xs = [x] ∧ Dp K H x d ∧ d.showable = true ∧ d.shown.length ≤ sizeLine ∧ d.depth ≤ 50 ∧ Q (.str d.shown) H
theorem call_reprD {k : Nat} (hr : Room k X.A) (hG : X.A.guards = some []) : CallR X (.builtin "repr") (rRepr X.K) := by
  intro pins s σ H xs us Q I r h
  obtain ⟨x, d, rfl, hd, hs, hz, hdp, q⟩ := h
  obtain ⟨u, rfl, rx⟩ := vals1 r
  have hu := hr.units
  cases hd with
  | non => cases rx; exact P.repr_of_none ⟨.str _, H, I.tok _, ⟨_, rfl⟩, q⟩
  | bl b => cases rx; exact P.repr_of_bool ⟨.str _, H, I.tok _, ⟨_, rfl⟩, q⟩
  | int i =>
    obtain ⟨t, rfl⟩ := rx
    have hs' : i.natAbs.log2 < 1920 := by simpa [PyData.showable] using hs
    exact P.repr_of_int hs' ⟨.str _, H, I.tok _, ⟨_, rfl⟩, q⟩
  | str z =>
    obtain ⟨t, rfl⟩ := rx
    exact P.repr_of_str ⟨.str _, H, I.tok _, ⟨_, rfl⟩, q⟩ hz
  | @lst a xs ds hq ha =>
    cases rx
    obtain ⟨as, hR⟩ := Dp.reads I (.list ds) (.ref a) (.ref a) (.lst hq ha) rfl
    refine repr_of_reads' hR hs (PyData.noDict_hsm (dp_noDict (K := X.K) (H := H) (.lst hq ha))) hG (by omega) (fun _ _ e => e) (fun h' t tk hk => ?_) hz
    exact ⟨.str _, H, I.kept hk, ⟨_, rfl⟩, q⟩
  | @tup a xs ds hq ha =>
    cases rx
    obtain ⟨as, hR⟩ := Dp.reads I (.tuple ds) (.ref a) (.ref a) (.tup hq ha) rfl
    refine repr_of_reads' hR hs (PyData.noDict_hsm (dp_noDict (K := X.K) (H := H) (.tup hq ha))) hG (by omega) (fun _ _ e => e) (fun h' t tk hk => ?_) hz
    exact ⟨.str _, H, I.kept hk, ⟨_, rfl⟩, q⟩
/-- list(text) -/
theorem call_listT (hc : X.calm = true) : CallR X (.type "list") (fun xs H Q => ∃ l, xs = [tx l] ∧ l.length ≤ sizeLine ∧ ∀ p, H p = none → Q (.ref p) (upd H p (.lst (l.map fun c => tx [c])))) := by
  intro pins s σ H xs us Q I r h
  obtain ⟨l, rfl, hz, q⟩ := h
  obtain ⟨u, rfl, rx⟩ := vals1 r
  obtain ⟨t, rfl⟩ := rx
  refine call_list_str (I.ok.hd hc) (tS l) t (fun h' tk acc c hk hS hacc => ?_) (by show l.toArray.size ≤ _; simpa using hz)
  have hl : acc.size = l.length := by rw [hacc.1]; simp [tS]
  have hv : Vals (l.map fun c => tx [c]) acc.toList := vals_of_at (by rw [List.length_map, len_toL, hl]) fun j x w h1 h2 => by
    obtain ⟨c, t, e1, e2⟩ := hacc.2 j w (by rw [← Array.getElem?_toList]; exact h2)
    have e3 : l[j]? = some c := by simpa [tS] using e1
    rw [List.getElem?_map, e3] at h1
    cases h1
    subst e2
    exact ⟨t, rfl⟩
  exact ⟨.ref s.heap.objs.size, upd H s.heap.objs.size (.lst (l.map fun c => tx [c])), I.laid (t' := tk) hk (Nat.le_refl _)
    (show ObjOk X.prog X.w _ _ _ (.lst (l.map fun c => tx [c])) from ⟨by rw [List.length_map]; exact hz, acc.toList, c, hv, by rw [Array.toArray_toList]; exact hS⟩), rfl, q _ (I.hok.fresh (Nat.le_refl _))⟩
def tListVals (te : TE) : TE := fun σ H Q => te σ H fun x H1 => ∃ (d : Addr) (kvs : List (Key × V)), x = .ref d ∧ H1 d = some (.dK kvs) ∧ ∀ p, H1 p = none → Q (.ref p) (upd H1 p (.lst (kvs.map (·.2))))
/-- list(e.values()) -/
theorem pe_listVals {e : Expr} {te : TE} {p apos cpos pos : Pos} (hc : X.calm = true) (he : PE X e te) (hg : Gl X "list") (hm : X.mg "list" = none) (hv : bootBuiltins "list" = some (.type "list")) (hbase : attributeBase e "values" X.env (eval e X.env) = eval e X.env := by rfl) (hline : (apos.endLine == cpos.line) = true := by rfl)
    (hs : starEach [.Call (.Attribute e "values" apos) [] [] cpos] X.env = (false, eval (.Call (.Attribute e "values" apos) [] [] cpos) X.env) :: starEach [] X.env := by rfl) :
    PE X (.Call (.Name "list" p) [.Call (.Attribute e "values" apos) [] [] cpos] [] pos) (tListVals te) := by
  refine ⟨fun pins s σ H Q I hq => ?_⟩
  refine wpAny_Call_Name_kw (ld_blt I hg hm hv ?_)
  refine PyProof.Rows.callWith_type1 ?_ hs rfl
  rw [hs]
  show wpAny _ _ (spliced ((false, eval (.Call (.Attribute e "values" apos) [] [] cpos) X.env) :: backTo pos (starEach [] X.env))) _ _ s
  refine Calls.spliced_cons ?_
  refine wpAny_Call_method (T := "dict") (id := "dict.values") hbase rfl hline F.plainAttrs_dict F.slot_dict_values F.type_dict_values (thn (he.run pins s σ H _ I hq) fun u s1 ⟨x, H1, I1, rx, d, kvs, ex, hd, q⟩ => ?_)
  subst ex
  obtain rfl : u = Value.ref d := rx
  obtain ⟨hz, hs0, vs, kv, hdo⟩ := I1.hok d _ hd
  obtain ⟨ep, hat⟩ := hdo.dictAt
  have lk : kvs.length = vs.length := Paired.length kv
  have I2 : Inv X pins σ H1 { s1 with heap := s1.heap.push { cls := .type "dict_values", data := .fields #[.ref d] } } := I1.kept (t' := s1.toks) fun b ob q => Heap.get?_push_of_some _ q
  refine ⟨hdo.typeIs, hdo.mapOf.noDict, ?_⟩
  show wpAny _ _ (callWith cpos (.builtin "dict.values") [.ref d] [] []) _ X.xe s1
  refine method_meetsIn F.slot_dict_values F.entry_dict_values rfl (PySem.evalArgs_none ⟨rfl, hdo.typeIs, F.args_dict_values_1 _, _, meets_dict_values (mixKind X.prog X.w) d hs0, ⟨vs, hdo⟩, ?_⟩)
  refine Calls.spliced_nil ?_
  refine PySem.W.kdl_call (PySem.W.kdl_values (knd := mixKind X.prog X.w) (kvs := vs) (ep := ep) (d := d)) (I1.ok.hd hc) ⟨⟨_, Heap.get?_push_size _ rfl, rfl, rfl⟩, hat.push _⟩ (by omega) fun h' tk acc c' hk hD hacc => ?_
  have hvv : Vals (kvs.map (·.2)) acc.toList := vals_of_at (by rw [List.length_map, len_toL, hacc.1, lk]) fun j x w h1 h2 => by
    obtain ⟨k, e1⟩ := hacc.2 j w (by rw [← Array.getElem?_toList]; exact h2)
    rw [List.getElem?_map] at h1
    cases e3 : kvs[j]? with
    | none => rw [e3] at h1; cases h1
    | some kx =>
      rw [e3] at h1
      cases h1
      obtain ⟨qv, g1, g2, g3⟩ := LiI.paired_get kv e3
      rw [e1] at g1
      cases g1
      exact g3
  exact ⟨.ref _, upd H1 _ (.lst (kvs.map (·.2))), I2.laid (t' := tk) hk (Nat.le_refl _)
    (show ObjOk X.prog X.w _ _ _ (.lst (kvs.map (·.2))) from ⟨by rw [List.length_map]; exact hz, acc.toList, c', hvv, by rw [Array.toArray_toList]; exact hD⟩), rfl, q _ (I2.hok.fresh (Nat.le_refl _))⟩
end
end L3
/-! sorted(texts, key=f), f giving pairs of an int and a text. -/
namespace L3
open PySem PySem.Spec PyProof.Rows L2
/-- a key: an int and a text -/
abbrev KF := List Nat → Int × List Nat
def kD (kf : KF) (l : List Nat) : PyData := .tuple [.int (kf l).1, .str (tS (kf l).2)]
/-- the sorted list -/
def sortT (kf : KF) (ts : List (List Nat)) : List (List Nat) := ts.mergeSort (PySem.W.dataLe false (kD kf))
theorem sortT_perm (kf : KF) (ts : List (List Nat)) : (sortT kf ts).Perm ts := List.mergeSort_perm _ _
theorem kD_alike (kf : KF) (a b : List Nat) : PySem.W.alike (kD kf a) (kD kf b) = true := by simp [kD, PySem.W.alike, PySem.W.alikeAll]
section
variable {X : Cx} {pins : List (Addr × Obj)} {σ : L2.St} {H : Hp} {s : Shared}
/-- calls of f give the keys, nothing else is touched -/
def KCall (X : Cx) (pins : List (Addr × Obj)) (H0 : Hp) (f : Value) (kf : KF) : Prop := ∀ (s : Shared) (σ : L2.St) (H : Hp) (l : List Nat) (t : Tok), L2.Inv X pins σ H s → Same H0 H → l.length ≤ sizeLine →
  wpAny (model X.prog X.w) X.A.in1.in1 (call f [.str (tS l) t]) (fun u s' => ∃ p H', s'.os = s.os ∧ AllBare s'.gens ∧ Un (frs X.stack) [] H H' s.heap s'.heap ∧ HOk X.prog X.w H' s'.heap ∧ Same H H' ∧ u = .ref p ∧ H' p = some (.tup [.int (kf l).1, tx (kf l).2])) (fun _ _ => False) s
/-- an address above the heap: what Inv.turned asks -/
theorem above_ok {it : Addr} (I : L2.Inv X pins σ H s) (h : s.heap.objs.size ≤ it) : it ≠ X.env.locals ∧ (it ∈ X.ex ∨ X.s_0.heap.objs.size ≤ it) ∧ (∀ x c, X.env.cells.lookup x = some c → c ≠ it) ∧ (∀ p ∈ X.pn ++ pins, p.1 ≠ it) ∧ it ∉ frs X.stack := by
  refine ⟨fun e => ?_, .inr (Nat.le_trans I.sz h), fun x c hc e => ?_, fun p hp e => ?_, fun hb => ?_⟩
  · have := I.lt
    rw [← e] at this
    exact Nat.lt_irrefl _ (Nat.lt_of_lt_of_le this h)
  · obtain ⟨v, o, ho, _⟩ := I.cell x c hc
    have := Heap.lt_size ho
    rw [e] at this
    exact Nat.lt_irrefl _ (Nat.lt_of_lt_of_le this h)
  · have := Heap.lt_size (I.pin p hp).1
    rw [e] at this
    exact Nat.lt_irrefl _ (Nat.lt_of_lt_of_le this h)
  · rcases List.mem_cons.mp (I.stkSub _ hb) with e | e
    · have := I.lt
      rw [← e] at this
      exact Nat.lt_irrefl _ (Nat.lt_of_lt_of_le this h)
    · exact I.nofs h e
theorem each_strs : ∀ {ts : List (List Nat)} {vs : List Value}, Vals (ts.map tx) vs → PySem.W.EachIs (fun v l => ∃ t, v = Value.str (tS l) t) vs ts
  | [], _, r => by cases r; exact .nil
  | _ :: _, _, r => by
    cases r with
    | cons r1 r2 => exact .cons r1 (each_strs r2)
theorem vals_each : ∀ {ts : List (List Nat)} {vs : List Value}, PySem.W.EachIs (fun v l => ∃ t, v = Value.str (tS l) t) vs ts → Vals (ts.map tx) vs
  | _, _, .nil => .nil
  | _, _, .cons h t => .cons h (vals_each t)
/-- the body of list.sort with key, at the new list a -/
theorem key_rest {f : Value} {kf : KF} {a kS : Addr} {e1 : Nat} {ts : List (List Nat)} {vs : List Value} {P : PySem.Fin → Shared → Prop} {E : Value → Shared → Prop} {k : Nat} (hr : Room k X.A) (hK : KCall X pins H f kf) (I : L2.Inv X pins σ H s) (rv : Vals (ts.map tx) vs) (hz : ts.length ≤ sizeLine) (hl : ∀ l ∈ ts, l.length ≤ sizeLine)
    (Ha : H a = none) (HkS : H kS = none) (hka : kS ≠ a)
    (ok1 : a ≠ X.env.locals ∧ (a ∈ X.ex ∨ X.s_0.heap.objs.size ≤ a) ∧ (∀ x c, X.env.cells.lookup x = some c → c ≠ a) ∧ (∀ p ∈ X.pn ++ pins, p.1 ≠ a) ∧ a ∉ frs X.stack)
    (ok2 : kS ≠ X.env.locals ∧ (kS ∈ X.ex ∨ X.s_0.heap.objs.size ≤ kS) ∧ (∀ x c, X.env.cells.lookup x = some c → c ≠ kS) ∧ (∀ p ∈ X.pn ++ pins, p.1 ≠ kS) ∧ kS ∉ frs X.stack)
    (nk : s.heap.get? kS = some (seqObj "list" #[] 0)) (na : s.heap.get? a = some (seqObj "list" #[] e1))
    (h : ∀ s' H', L2.Inv X pins σ (upd H' a (.lst ((sortT kf ts).map tx))) s' → Same H H' → H' a = none → P (.done (.ret .none)) s') :
    wpAny (model X.prog X.w) X.A.in1.in1 (ksk_rest a f false vs.toArray e1 (.ref kS)) P E s := by
  have hlen : vs.length = ts.length := by rw [← rv.length, List.length_map]
  have eS := each_strs rv
  unfold ksk_rest
  refine wpAny_bind (wpAny_rule ?_)
  rw [List.forIn_toArray]
  refine wpAny_bind (ksk_fold (fun i s' => ∃ H' kA e, L2.Inv X pins σ H' s' ∧ Same H H' ∧ H' a = none ∧ H' kS = none ∧ s'.heap.get? kS = some (seqObj "list" kA e) ∧ s'.heap.get? a = some (seqObj "list" #[] e1) ∧
      PySem.W.EachIs (fun (v : Value) (l : List Nat) => ∃ p, v = Value.ref p ∧ H' p = some (.tup [.int (kf l).1, tx (kf l).2])) kA.toList (ts.take i)) vs 0 s
    ⟨H, #[], 0, I, Same.refl H, Ha, HkS, nk, na, by rw [List.take_zero]; exact .nil⟩ ?step ?done)
  case step =>
    rintro j x s' hx ⟨H', kA, e, I', sm, ha', hk', nk', na', hk⟩
    simp only [Nat.zero_add] at hk ⊢
    have hj : j < vs.length := (List.getElem?_eq_some_iff.mp hx).1
    obtain ⟨l, hlj⟩ : ∃ l, ts[j]? = some l := ⟨_, List.getElem?_eq_getElem (by omega)⟩
    have hxt : ∃ t, x = Value.str (tS l) t := eS.zip (x, l) (List.mem_of_getElem? (i := j) (by rw [List.getElem?_zip_eq_some]; exact ⟨hx, hlj⟩))
    obtain ⟨t, rfl⟩ := hxt
    have hzA : kA.size ≤ vs.length := by
      have h1 := hk.length
      rw [Array.length_toList, List.length_take] at h1
      omega
    refine wpAny_bind (wpAny_attempt (wpAny_mono (hK s' σ H' l t I' sm (hl l (List.mem_of_getElem? hlj))) (fun v s'' he => ?_) fun _ _ hF => hF.elim))
    obtain ⟨p, H2, os2, bare2, un2, hok2, sm2, rfl, hp⟩ := he
    have I2 : L2.Inv X pins σ H2 s'' := I'.call' os2 un2 hok2 bare2 fun b z => absurd z (by simp)
    have nk2 := un2.keep kS _ nk' hk' ok2.2.2.2.2 (by simp)
    have na2 := un2.keep a _ na' ha' ok1.2.2.2.2 (by simp)
    have hk2 := un2.free kS _ nk' hk' (by simp)
    have ha2 := un2.free a _ na' ha' (by simp)
    have s1 := Heap.SameBut.update s''.heap kS (Obj.mapSeq (·.push (Value.ref p)))
    obtain ⟨c2, hc2⟩ : ∃ c2, (s''.heap.update kS (Obj.mapSeq (·.push (Value.ref p)))).get? kS = some (seqObj "list" (kA.push (Value.ref p)) c2) := ⟨_, get?_update_seq nk2 (·.push (Value.ref p))⟩
    have ek : ts.take (j + 1) = ts.take j ++ [l] := by rw [List.take_add_one, hlj]; simp
    have ea : (kA.push (Value.ref p)).toList = kA.toList ++ [Value.ref p] := by simp
    refine wpAny_bind (listUpdate_at nk2 rfl ?_ (by omega) (by rw [Array.size_push]; omega))
    refine wpAny_pure ⟨rfl, H2, kA.push (Value.ref p), c2, I2.turned (t' := s''.toks) (fun b o hb e => (s1.2 b hb).trans e) hk2 ok2.1 ok2.2.1 ok2.2.2.1 ok2.2.2.2.1, sm.trans sm2, ha2, hk2, hc2, (s1.2 a hka.symm).trans na2, ?_⟩
    rw [ea, ek]
    refine PySem.W.each_snoc ⟨p, rfl, hp⟩ (hk.mono fun v l' q => ?_)
    obtain ⟨p', e', q'⟩ := q
    exact ⟨p', e', sm2 _ _ q'⟩
  case done =>
    rintro s' ⟨H', kA, e, I', sm, ha', hk', nk', na', hk⟩
    have e3 : ts.take (0 + vs.length) = ts := List.take_of_length_le (by omega)
    rw [e3] at hk
    have hsz : kA.size = vs.length := by
      have h1 := hk.length
      rw [Array.length_toList] at h1
      omega
    have hR : PySem.W.EachIs (fun v k => ∃ as, Reads s'.heap v k as) kA.toList (ts.map (kD kf)) := by
      refine PySem.W.each_map (kD kf) (hk.mono fun v l q => ?_)
      obtain ⟨p, rfl, hp⟩ := q
      obtain ⟨_, its, r, o, ho, hc, n, hd⟩ := I'.hok p _ hp
      cases r with
      | cons r1 r2 =>
        cases r2 with
        | cons r2 r3 =>
          cases r3
          obtain ⟨t1, rfl⟩ := r1
          obtain ⟨t2, rfl⟩ := r2
          exact ⟨_, .tuple ho hc hd (.cons (.int _ _) (.cons (.str _ _) .nil))⟩
    try dsimp only
    refine wpAny_bind (listItems_at nk' rfl ?_)
    have hal : PySem.W.AllAlike (ts.map (kD kf)) := PySem.W.AllAlike.of (kD_alike kf)
    have hsk : PySem.W.Sortable (ts.map (kD kf)) := PySem.W.Sortable.tuples fun b => ⟨_, _, rfl⟩
    have hu := hr.units
    have hS := PySem.W.SortsAt.data (prog := X.prog) (w := X.w) (A := X.A.in1.in1) (s := s') hR hal hsk (fun d hd => by
      obtain ⟨l, _, rfl⟩ := List.mem_map.mp hd
      show X.A.units + 1 + 1 + (kD kf l).depth < cLine
      have : (kD kf l).depth ≤ 2 := by simp [kD, PyData.depth, PyData.depthAll]
      omega)
    refine PySem.W.keyH_end (h₁ := PySem.W.hideAll s'.heap [kS]) (fun b o _ q => PySem.W.of_hideAll _ q) (PySem.W.hideAll_none _ (by simp)) nk' na' hka hS hsz (by omega) fun h' tk c kp hD => ?_
    have ko : PySem.W.KeyedOut false (ts.map (kD kf)) vs (PySem.W.sortVals (PySem.W.dataKind s'.heap (ts.map (kD kf))) false kA.toList vs) := ⟨s'.heap, kA.toList, hal, rfl, hR⟩
    have hout := PySem.W.keyedOut_each (kD kf) ko eS
    have kp' : ∀ b o, b ≠ a → b ≠ kS → s'.heap.get? b = some o → h'.get? b = some o := fun b o h1 h2 q => kp b o h1 (PySem.W.hideAll_get _ q (by simpa using h2))
    have nt : ∀ b u, H' b = some u → b ≠ a ∧ b ≠ kS := fun b u q => ⟨ne_of_none q ha', ne_of_none q hk'⟩
    have hlen2 : (sortT kf ts).length = ts.length := (sortT_perm kf ts).length_eq
    refine h _ H' (I'.call' (ch := [kS, a]) (s' := { s' with heap := h', toks := tk }) rfl ⟨?_, ?_, ?_, ?_, ?_, ?_, ?_⟩ ?_ I'.bare ?_) sm ha'
    · intro b o q n _ hx
      simp only [List.mem_cons, List.not_mem_nil, or_false, not_or] at hx
      exact kp' b o hx.2 hx.1 q
    · intro b o q n _ hx
      simp only [List.mem_cons, List.not_mem_nil, or_false, not_or] at hx
      exact ⟨o.slots, kp' b o hx.2 hx.1 q⟩
    · intro b o q n hx
      simp only [List.mem_cons, List.not_mem_nil, or_false, not_or] at hx
      rw [upd_ne hx.2]
      exact n
    · intro b o q hx
      simp only [List.mem_cons, List.not_mem_nil, or_false, not_or] at hx
      exact ⟨o, kp' b o hx.2 hx.1 q⟩
    · intro b xs q
      rw [upd_ne (nt b _ q).1]
      exact q
    · intro b o u q
      rw [upd_ne (nt b _ q).1]
      exact q
    · intro b ps q
      refine ⟨#[], ?_⟩
      rw [upd_ne (nt b _ q).1, q]
      simp
    · intro b u q
      by_cases hb : b = a
      · subst hb
        rw [upd_same] at q
        cases q
        exact ⟨by rw [List.length_map, hlen2]; exact hz, _, c, vals_each hout, hD⟩
      · rw [upd_ne hb] at q
        refine (I'.hok b u q).stay (fun d v hd q' => ?_) (fun d q' => by rw [upd_ne (nt d _ q').1]; exact q') fun d xs q' => by rw [upd_ne (nt d _ q').1]; exact q'
        rcases hd with rfl | hd
        · exact kp' _ _ (nt _ _ q).1 (nt _ _ q).2 q'
        · exact kp' _ _ (nt _ _ hd).1 (nt _ _ hd).2 q'
    · intro b hb
      simp only [List.mem_cons, List.not_mem_nil, or_false] at hb
      rcases hb with rfl | rfl
      · exact ⟨ok2.2.1, ok2.1, ok2.2.2.1, ok2.2.2.2.1⟩
      · exact ⟨ok1.2.1, ok1.1, ok1.2.2.1, ok1.2.2.2.1⟩
/-- list.sort(a, key=f) on the new list a (not tracked), as sorted does it -/
theorem key_tree {f : Value} {kf : KF} {a : Addr} {n : Nat} {ts : List (List Nat)} {vs : List Value} {P : PySem.Fin → Shared → Prop} {E : Value → Shared → Prop} {k : Nat} (hr : Room k X.A) (hK : KCall X pins H f kf) (I : L2.Inv X pins σ H s) (rv : Vals (ts.map tx) vs) (hz : ts.length ≤ sizeLine) (hl : ∀ l ∈ ts, l.length ≤ sizeLine)
    (Ha : H a = none) (ho : s.heap.get? a = some (seqObj "list" vs.toArray n))
    (ok1 : a ≠ X.env.locals ∧ (a ∈ X.ex ∨ X.s_0.heap.objs.size ≤ a) ∧ (∀ x c, X.env.cells.lookup x = some c → c ≠ a) ∧ (∀ p ∈ X.pn ++ pins, p.1 ≠ a) ∧ a ∉ frs X.stack)
    (h : ∀ s' H', L2.Inv X pins σ (upd H' a (.lst ((sortT kf ts).map tx))) s' → Same H H' → H' a = none → P (.done (.ret .none)) s') :
    wpAny (model X.prog X.w) X.A.in1.in1 (ksk_tree a f false) P E s := by
  have hlen : vs.length = ts.length := by rw [← rv.length, List.length_map]
  have hZ : vs.length ≤ sizeLine := by omega
  have hlt : a < s.heap.objs.size := Heap.lt_size ho
  obtain ⟨e1, ho1⟩ : ∃ e1, (s.heap.update a (Obj.mapSeq fun _ => (#[] : Array Value))).get? a = some (seqObj "list" #[] e1) := ⟨_, get?_update_seq ho fun _ => #[]⟩
  have hkS : ((s.heap.update a (Obj.mapSeq fun _ => (#[] : Array Value))).push (seqObj "tuple" vs.toArray 0)).objs.size = s.heap.objs.size + 1 := by rw [size_push', Heap.size_update]
  have s1 := Heap.SameBut.update s.heap a (Obj.mapSeq fun _ => (#[] : Array Value))
  have I1 : L2.Inv X pins σ H { s with heap := s.heap.update a (Obj.mapSeq fun _ => (#[] : Array Value)) } := I.turned (t' := s.toks) (fun b o hb e => (s1.2 b hb).trans e) Ha ok1.1 ok1.2.1 ok1.2.2.1 ok1.2.2.2.1
  have I3 : L2.Inv X pins σ H { s with heap := ((s.heap.update a (Obj.mapSeq fun _ => (#[] : Array Value))).push (seqObj "tuple" vs.toArray 0)).push (seqObj "list" #[] 0) } :=
    I1.kept (t' := s.toks) fun b o e => Heap.get?_push_of_some _ (Heap.get?_push_of_some _ e)
  have up := above_ok (it := s.heap.objs.size + 1) I (Nat.le_succ _)
  unfold ksk_tree
  refine wpAny_bind (listItems_at ho rfl ?_)
  refine wpAny_bind (listUpdate_at ho rfl ?_ (by rw [List.size_toArray]; exact hZ) (Nat.zero_le _))
  refine wpAny_bind (seqEpoch_at ho1 rfl ?_)
  refine wpAny_bind (wpAny_newTuple ?_ (by show vs.length ≤ _; exact hZ))
  refine wpAny_bind (wpAny_newList ?_ (Nat.zero_le _))
  refine wpAny_holding ?_
  have nkS : (((s.heap.update a (Obj.mapSeq fun _ => (#[] : Array Value))).push (seqObj "tuple" vs.toArray 0)).push (seqObj "list" #[] 0)).get? (s.heap.objs.size + 1) = some (seqObj "list" #[] 0) := by
    rw [← hkS]; exact Heap.get?_push_size _ rfl
  show wpAny (model X.prog X.w) X.A.in1.in1 (ksk_rest a f false vs.toArray e1 (.ref ((s.heap.update a (Obj.mapSeq fun _ => (#[] : Array Value))).push (seqObj "tuple" vs.toArray 0)).objs.size)) P E { s with heap := ((s.heap.update a (Obj.mapSeq fun _ => (#[] : Array Value))).push (seqObj "tuple" vs.toArray 0)).push (seqObj "list" #[] 0) }
  rw [hkS]
  exact key_rest hr hK I3 rv hz hl Ha (I.hok.fresh (Nat.le_succ _)) (Nat.ne_of_gt (Nat.lt_succ_of_lt hlt)) ok1 up nkS (Heap.get?_push_of_some _ (Heap.get?_push_of_some _ ho1)) h
/-- sorted(l, key=f), l a list of texts -/
theorem sorted_key {f : Value} {kf : KF} {l : Addr} {ts : List (List Nat)} {Q : VK} {k : Nat} (hr : Room k X.A) (hf : ∀ x, Builtin.«list.sort» ⟨[.ref x], [(Str.ofString "key", f)]⟩ = ksk_tree x f false) (hK : KCall X pins H f kf) (I : L2.Inv X pins σ H s) (hS : SqL X.K H l (ts.map tx)) (hl : ∀ l ∈ ts, l.length ≤ sizeLine)
    (q : ∀ H' p, Same H H' → H p = none → H' p = some (.lst ((sortT kf ts).map tx)) → Q (.ref p) H') :
    wpAny (model X.prog X.w) X.A (call (.builtin "sorted") [.ref l] [(Str.ofString "key", f)]) (EP X pins σ Q) X.xe s := by
  obtain ⟨its, rv, hL, hz⟩ := I.list hS
  have hlen := rv.length
  rw [List.length_map] at hz
  refine PySem.W.sorted_of_sort hL.isList (by rw [← hlen, List.length_map]; exact hz) (PyProof.Rows.ksk_s1 _ _) (fun _ => PyProof.Rows.ksk_l1 _ _) fun E' => ?_
  rw [hf]
  have I1 : L2.Inv X pins σ H { s with heap := PySem.W.copyHeap s.heap its } := I.kept (t' := s.toks) fun b o e => PySem.W.copyHeap_old e
  have hn : H (s.heap.objs.size + 1) = none := I.hok.fresh (Nat.le_succ _)
  refine key_tree hr hK I1 rv hz hl hn (PySem.W.copyHeap_at s.heap its) (above_ok (it := s.heap.objs.size + 1) I (Nat.le_succ _)) fun s' H' I' sm ha => ⟨rfl, ?_⟩
  refine ⟨.ref _, _, I', rfl, q _ _ (fun b o e => ?_) hn upd_same⟩
  rw [upd_ne (ne_of_none e hn)]
  exact sm b o e
end
end L3
namespace L3
open PySem PySem.Spec PyProof.Rows L2
section
variable {X : Cx} {pins : List (Addr × Obj)} {σ : L2.St} {H : Hp} {s : Shared}
/-- sorted(d, key=f), d a dict whose keys are texts -/
theorem sorted_keyD {f : Value} {kf : KF} {d : Addr} {kvs : List (Key × V)} {ts : List (List Nat)} {Q : VK} {k : Nat} (hc : X.calm = true) (hr : Room k X.A) (hf : ∀ x, Builtin.«list.sort» ⟨[.ref x], [(Str.ofString "key", f)]⟩ = ksk_tree x f false) (hK : KCall X pins H f kf) (I : L2.Inv X pins σ H s)
    (hd : H d = some (.dK kvs)) (hks : kvs.map (·.1) = ts.map fun l => Sum.inr (tS l)) (hl : ∀ l ∈ ts, l.length ≤ sizeLine)
    (q : ∀ H' p, Same H H' → H p = none → H' p = some (.lst ((sortT kf ts).map tx)) → Q (.ref p) H') :
    wpAny (model X.prog X.w) X.A (call (.builtin "sorted") [.ref d] [(Str.ofString "key", f)]) (EP X pins σ Q) X.xe s := by
  obtain ⟨z, lo, vs, rel, dd⟩ := I.hok d _ hd
  obtain ⟨ep, hat⟩ := dd.dictAt
  have lk : kvs.length = vs.length := Paired.length rel
  have lt : kvs.length = ts.length := by
    have e := congrArg List.length hks
    rwa [List.length_map, List.length_map] at e
  have hkeys : vs.map (·.1) = ts.map fun l => Sum.inr (tS l) := (KV.keys rel).symm.trans hks
  refine call_function_entry_kw kind_sorted plain_sorted entry_sorted (PyProof.Rows.ksk_s1 _ _) ?_
  unfold Builtin.«sorted»
  refine wpAny_bind (m := checkCount "sorted" 1 1 _) (wpAny_pure ?_)
  refine wpAny_bind (PySem.W.kdu_collect (A := X.A.in1) (PySem.W.kdl_dict (knd := mixKind X.prog X.w) (kvs := vs) (ep := ep) lo) (I.ok.hd hc) hat (by omega) fun h' tk acc hk hacc => ?_)
  have hal : acc.toList.length = ts.length := by rw [len_toL, hacc.1]; omega
  have rv : Vals (ts.map tx) acc.toList := vals_of_at (by rw [List.length_map, hal]) fun j x w h1 h2 => by
    obtain ⟨kk, y, e1, e2⟩ := hacc.2 j w (by rw [← Array.getElem?_toList]; exact h2)
    have e3 : (vs.map (·.1))[j]? = some kk := by rw [List.getElem?_map, e1]; rfl
    rw [hkeys, List.getElem?_map] at e3
    rw [List.getElem?_map] at h1
    cases e4 : ts[j]? with
    | none => rw [e4] at e3; cases e3
    | some l =>
      rw [e4] at e3 h1
      cases h1
      have e5 : Sum.inr (tS l) = kk := Option.some.inj e3
      subst e5
      exact keyIs_rel (k := Sum.inr (tS l)) e2
  have I1 : L2.Inv X pins σ H { s with heap := h', toks := tk } := I.kept hk
  refine wpAny_bind (wpAny_newList ?_ (by omega))
  have hoL : (h'.push (seqObj "list" acc.toList.toArray 0)).get? h'.objs.size = some (seqObj "list" acc.toList.toArray 0) := Heap.get?_push_size _ rfl
  have I2 : L2.Inv X pins σ H { s with heap := h'.push (seqObj "list" acc.toList.toArray 0), toks := tk } := I1.kept (t' := tk) fun b o e => Heap.get?_push_of_some _ e
  have hn : H h'.objs.size = none := I1.hok.fresh (Nat.le_refl _)
  show wpAny _ _ _ _ _ { s with heap := h'.push (seqObj "list" acc.toList.toArray 0), toks := tk }
  refine wpAny_bind (wpAny_holding (wpAny_call_entry_kw slot_list_sort ⟨_, hoL, rfl⟩ entry_list_sort ?body (PyProof.Rows.ksk_l1 _ _)))
  case body =>
    show wpAny (model X.prog X.w) X.A.in1.in1 (Builtin.«list.sort» ⟨[.ref h'.objs.size], [(Str.ofString "key", f)]⟩) _ _ _
    rw [hf]
    refine key_tree hr hK I2 rv (by omega) hl hn hoL (above_ok (it := h'.objs.size) I1 (Nat.le_refl _)) fun s' H' I' sm ha => ⟨_, rfl, wpAny_pure ⟨_, rfl, ?_⟩⟩
    refine ⟨.ref _, _, I', rfl, q _ _ (fun b o e => ?_) hn upd_same⟩
    rw [upd_ne (ne_of_none e hn)]
    exact sm b o e
end
end L3
/-! sorted(.., key=def) and sorted(.., key=lambda). -/
namespace L3
open PySem PySem.Spec PyProof.Rows L2
/-- the promise of a def that gives a key -/
def spKey (kf : KF) : Sp := fun vs H Q _ => ∃ l, vs = [tx l] ∧ l.length ≤ sizeLine ∧ ∀ H' p, Same H H' → H' p = some (.tup [.int (kf l).1, tx (kf l).2]) → Q (.ref p) H'
section
variable {X : Cx}
theorem kcall_fn {k : Nat} {f : Addr} {fd : FuncData} {x : Str} {kf : KF} {pins : List (Addr × Obj)} {H0 : Hp} (F : FnOk X.prog X.w X.K X.mg X.base CX0 k f fd [x] (spKey kf)) (hr : Room (k + 2) X.A) (hb : L2.Binds X.K fd [x] []) : KCall X pins H0 (.ref f) kf := by
  intro s σ H l t I sm hl
  have hb' : BindsTo s fd ⟨[.str (tS l) t], []⟩ ([x].zip [.str (tS l) t]) := hb s [.str (tS l) t] I.kIn rfl
  refine wpAny_call (codeAny_mono (F.run X.A.in1.in1 X.stack s H ⟨[.str (tS l) t], []⟩ [.str (tS l) t] [tx l] (fun v H' => Same H H' ∧ ∃ p, v = .ref p ∧ H' p = some (.tup [.int (kf l).1, tx (kf l).2])) E0 hr.in1.in1 I.env0.in1.in1 hb' (.cons ⟨t, rfl⟩ .nil) ⟨l, rfl, hl, fun H' p s1 hp => ⟨s1, p, rfl, hp⟩⟩) fun r s' hq => ?_)
  cases r with
  | error e => exact (show False from hq).elim
  | ok fl =>
    cases fl with
    | ret u =>
      obtain ⟨v, H', os, bare, un, hok, rv, sm', p, rfl, hp⟩ := hq
      exact ⟨p, H', os, bare, un, hok, sm', rv, hp⟩
    | next => exact False.elim hq
    | brk => exact False.elim hq
    | cont => exact False.elim hq
def rSortKey (K : PySem.W.Frag) (f : Addr) (kf : KF) : List V → List V → Hp → VK → Prop := fun vs zs H Q => ∃ (a : Addr) (ts : List (List Nat)), vs = [.ref a] ∧ zs = [.ref f] ∧ SqL K H a (ts.map tx) ∧ (∀ l ∈ ts, l.length ≤ sizeLine) ∧
  ∀ H' p, Same H H' → H p = none → H' p = some (.lst ((sortT kf ts).map tx)) → Q (.ref p) H'
/-- sorted(e, key=f), f a def -/
theorem cr_sortKey {k : Nat} {f : Addr} {fd : FuncData} {x : Str} {kf : KF} (F : FnOk X.prog X.w X.K X.mg X.base CX0 k f fd [x] (spKey kf)) (hr : Room (k + 2) X.A) (hb : L2.Binds X.K fd [x] []) : CallRK X (.builtin "sorted") [Str.ofString "key"] (rSortKey X.K f kf) := by
  intro pins s σ H vs zs us ws Q I r rz h
  obtain ⟨a, ts, rfl, rfl, hS, hl, q⟩ := h
  obtain rfl := Vals.ref1 r
  obtain rfl := Vals.ref1 rz
  exact sorted_key hr (fun x => PyProof.Rows.ksk_t1 f x) (kcall_fn F hr hb) I hS hl q
end
/-! ### a lambda with parameters and nothing captured -/
section
variable {P : Program} {w : World} {K : PySem.W.Frag} {mg : Str → Option Value} {base : Heap}
theorem lam_run {k : Nat} {f c' : Addr} {q : Str} {params : Arguments} {body : Expr} {scope : Scope} {pm ctv : Value} {N ps : List Str} {A : Around} {outer : List Env} {s : Shared} {H : Hp} {us : List Value} {vs : List V} {Q : VK}
    (ho : s.heap.get? f = some (PySem.W.kla_obj "<lambda>" q params body scope [] pm c' ctv)) (hcd : s.heap.CodeRec (.ref c') q) (S : FnScope N ps scope) (hr : Room (k + 1) A) (e0 : Env0 P w K mg base A outer s H)
    (hb : bindArgs (PySem.W.kla_fn "<lambda>" q params body scope [] pm (.ref c') ctv) ⟨us, []⟩ = pure (ps.zip us)) (r : Vals vs us) (hl : vs.length = ps.length)
    (hbody : Room k (A.deeper (envOfC q scope s.heap.objs.size f (.ref c'))) → ∃ t, PE (cxOf CX0 P w K mg base N q scope f (.ref c') A outer s H E0).nox body t ∧ t (L2.start N vs) H Q) :
    codeAny (model P w) A (.call (.ref f) ⟨us, []⟩) (CR CX0 outer P w H s Q E0) s := by
  have lim : s.heap.NoLimit := e0.mod.nolimit.keeps fun b o e => (e0.bs b o e).1
  have hkind : ∀ y ∈ ps.zip us, scope.names.lookup y.1 = some .local ∨ (scope.names.lookup y.1 = some .cell ∧ ((cellsFrom (s.heap.objs.size + 1) scope.names []).lookup y.1).isSome = true) := fun ⟨n, v⟩ hy => by
    rcases S.par n (List.of_mem_zip hy).1 with z | z
    · exact .inl z
    · exact .inr ⟨z, PySem.W.cellsFrom_some _ _ _ (.inl z)⟩
  refine PySem.W.kla_callFunE hr.depth ho rfl S.co S.gen rfl hcd ?_
  rw [hb]
  refine wpAny_pure ?_
  refine wpAny_newFunctionEnv_cells S.kind hkind fun env he s1 x => ?_
  subst he
  refine ⟨lim.keeps x.toInCall.keep, ?_⟩
  obtain ⟨t, ht, hq⟩ := hbody (hr.deeper _)
  have I : L2.Inv (cxOf CX0 P w K mg base N q scope f (.ref c') A outer s H E0) [] (L2.start N vs) H s1 := inv_start S hr.hd e0 hl r x
  show codeAny _ A (.expr body (envOfC q scope s.heap.objs.size f (.ref c'))) _ s1
  refine PySem.W.kla_codeExpr (wpAny_mono (ht.nox.run [] s1 (L2.start N vs) H Q I hq) (fun v s' hs => ?_) fun e s' hs => hs)
  obtain ⟨v', H', J, rv, qq⟩ := hs
  exact ⟨v', H', J.os, J.bare, J.base, J.hok, rv, qq⟩
end
section
variable {X : Cx} {pins : List (Addr × Obj)} {σ : L2.St} {H : Hp} {s : Shared}
theorem Inv_pin {f : Addr} {o : Obj} (I : L2.Inv X pins σ H s) (hf : s.heap.get? f = some o) (hn : H f = none) (hfr : f ∉ frs X.stack) (hL : f ≠ X.env.locals) (hc : ∀ v, o.data ≠ .cell v) : L2.Inv X ((f, o) :: pins) σ H s := by
  refine ⟨I.ok, I.os, I.bare, I.base, I.loc, I.cell, I.free, I.freeC, fun p hp => ?_, I.hok, I.len⟩
  rcases List.mem_append.mp hp with hp | hp
  · exact I.pin p (List.mem_append_left _ hp)
  · rcases List.mem_cons.mp hp with rfl | hp
    · refine ⟨hf, hn, hL, fun z => hfr ?_, hc⟩
      rcases I.ok.stk with e | ⟨e, _⟩
      · rw [e]; exact z
      · rw [e]
        unfold frs
        rw [List.filterMap_cons]
        split
        · exact z
        · exact List.mem_cons_of_mem _ z
    · exact I.pin p (List.mem_append_right _ hp)
theorem Inv_unpin {p : Addr × Obj} (I : L2.Inv X (p :: pins) σ H s) : L2.Inv X pins σ H s := by
  refine ⟨I.ok, I.os, I.bare, I.base, I.loc, I.cell, I.free, I.freeC, fun q hq => ?_, I.hok, I.len⟩
  rcases List.mem_append.mp hq with hq | hq
  · exact I.pin q (List.mem_append_left _ hq)
  · exact I.pin q (List.mem_append_right _ (List.mem_cons_of_mem _ hq))
end
end L3
/-! sorted(.., key=lambda x: ..). -/
namespace L3
open PySem PySem.Spec PyProof.Rows L2
/-- what is new is none of the old -/
def Fresh (H : Hp) (p : Addr) : Prop := ∀ b o, H b = some o → (∀ ps, o ≠ .tbl ps) → b ≠ p
/-- what sorted(x, key=lambda) asks, x a dict of texts or a list of texts -/
def rSortLam (K : PySem.W.Frag) (T : List (Addr × Str)) (kf : KF) : V → Hp → VK → Prop := fun x H Q => ∃ (d : Addr) (ts : List (List Nat)), x = .ref d ∧
  ((∃ kvs : List (Key × V), H d = some (.dK kvs) ∧ kvs.map (·.1) = ts.map fun l => Sum.inr (tS l)) ∨ H d = some (.lst (ts.map tx))) ∧ (∀ l ∈ ts, l.length ≤ sizeLine) ∧ LamX.Tabs T H ∧
  ∀ H' p, LamX.ExtN H H' → LamX.Tabs T H' → Fresh H p → H' p = some (.lst ((sortT kf ts).map tx)) → Q (.ref p) H'
section
variable {X : Cx}
theorem kcall_lam {k : Nat} {f c' : Addr} {params : Arguments} {body : Expr} {scope : Scope} {q : Str} {pm ctv : Value} {N : List Str} {y : Str} {kf : KF} {tb : TE} {pins : List (Addr × Obj)} {H0 : Hp} (hr : Room (k + 3) X.A) (S : FnScope N [y] scope)
    (hf : (f, PySem.W.kla_obj "<lambda>" q params body scope [] pm c' ctv) ∈ pins) (hc : H0 c' = some (LamX.CodeO c' q))
    (hbind : ∀ u : Value, bindArgs (PySem.W.kla_fn "<lambda>" q params body scope [] pm (.ref c') ctv) ⟨[u], []⟩ = pure [(y, u)])
    (hbody : ∀ (A : Around) (outer : List Env) (s : Shared) (H : Hp) (f c' : Addr), Room k (A.deeper (envOfC q scope s.heap.objs.size f (.ref c'))) → PE (cxOf CX0 X.prog X.w X.K X.mg X.base N q scope f (.ref c') A outer s H E0).nox body tb)
    (hread : ∀ (l : List Nat) (H : Hp), l.length ≤ sizeLine → tb (L2.start N [tx l]) H fun v H' => Same H H' ∧ ∃ p, v = .ref p ∧ H' p = some (.tup [.int (kf l).1, tx (kf l).2])) : KCall X pins H0 (.ref f) kf := by
  intro s σ H l t I sm hl
  have hp := I.pin _ (List.mem_append_right X.pn hf)
  obtain ⟨⟨oc, vs, t', hoc, hdc, hvc⟩, _, _⟩ := I.hok c' _ (sm _ _ hc)
  have rc : codeAny (model X.prog X.w) X.A.in1.in1 (.call (.ref f) ⟨[.str (tS l) t], []⟩) (CR CX0 X.stack X.prog X.w H s (fun v H' => Same H H' ∧ ∃ p, v = .ref p ∧ H' p = some (.tup [.int (kf l).1, tx (kf l).2])) E0) s :=
    lam_run (vs := [tx l]) hp.1 ⟨c', oc, vs, t', rfl, hoc, hdc, hvc⟩ S hr.in1.in1 I.env0.in1.in1 (hbind _) (.cons ⟨t, rfl⟩ .nil) rfl fun hr' => ⟨tb, hbody _ _ _ _ _ _ hr', hread l H hl⟩
  refine wpAny_call (codeAny_mono rc fun r s' hq => ?_)
  cases r with
  | error e => exact (show False from hq).elim
  | ok fl =>
    cases fl with
    | ret u =>
      obtain ⟨v, H', os, bare, un, hok, rv, sm', p, rfl, hp⟩ := hq
      exact ⟨p, H', os, bare, un, hok, sm', rv, hp⟩
    | next => exact False.elim hq
    | brk => exact False.elim hq
    | cont => exact False.elim hq
/-- sorted(e, key=lambda y: body) -/
theorem pe_sortLam {T : List (Addr × Str)} {c P : Addr} {k : Nat} {e : Expr} {te tb : TE} {params : Arguments} {body : Expr} {scope : Scope} {N : List Str} {y : Str} {kf : KF} {p lpos kpos pos : Pos} (hcalm : X.calm = true) (hg : Gl X "sorted") (hm : X.mg "sorted" = none) (hv : bootBuiltins "sorted" = some (.builtin "sorted"))
    (he : PE X e te) (TB : LamX.TabB X.base X.mg c P) (hcode : X.env.code = .ref c) (hmT : (P, X.env.qual ++ "<lambda>") ∈ T) (hu : ∀ p ∈ T, p.1 = P → p.2 = X.env.qual ++ "<lambda>") (hr : Room (k + 3) X.A) (S : FnScope N [y] scope) (hdef : defaultsOf params X.env = ([], []))
    (hclo : cloFrom X.env.cells scope.names [] = []) (hfree : ∀ y ∈ scope.names, y.2 ≠ .free)
    (hbind : ∀ (q : Str) (pm cv ctv u : Value), bindArgs (PySem.W.kla_fn "<lambda>" q params body scope [] pm cv ctv) ⟨[u], []⟩ = pure [(y, u)])
    (hbody : ∀ (A : Around) (outer : List Env) (s : Shared) (H : Hp) (f c' : Addr), Room k (A.deeper (envOfC (X.env.qual ++ "<lambda>") scope s.heap.objs.size f (.ref c'))) → PE (cxOf CX0 X.prog X.w X.K X.mg X.base N (X.env.qual ++ "<lambda>") scope f (.ref c') A outer s H E0).nox body tb)
    (hread : ∀ (l : List Nat) (H : Hp), l.length ≤ sizeLine → tb (L2.start N [tx l]) H fun v H' => Same H H' ∧ ∃ p, v = .ref p ∧ H' p = some (.tup [.int (kf l).1, tx (kf l).2]))
    (hst : backTo pos (starEach [e] X.env) = (false, eval e X.env) :: backTo pos (starEach [] X.env) := by rfl) :
    PE X (.Call (.Name "sorted" p) [e] [⟨some "key", .Lambda params body scope lpos, kpos⟩] pos) (fun σ H Q => te σ H fun x H1 => rSortLam X.K T kf x H1 Q) := by
  refine ⟨fun pins s σ H Q I h => ?_⟩
  refine wpAny_Call_Name_kw (ld_blt I hg hm hv ?_)
  refine PyProof.Rows.callWith_kw ?_ hst (by rw [hst]; rfl) rfl rfl
  rw [hst]
  refine Calls.spliced_cons (thn (he.run pins s σ H _ I h) fun u s1 ⟨x, H1, I1, r1, q1⟩ => ?_)
  refine Calls.spliced_nil ?_
  show wpAny _ _ (evalAll [do let v ← eval (.Lambda params body scope lpos) X.env; standAt pos; pure v]) _ _ s1
  obtain ⟨d, ts, rfl, hd, hl, hT, q⟩ := q1
  obtain rfl : u = Value.ref d := r1
  refine wpAny_evalAll_cons (wpAny_bind (LamX.lam_make2 I1 TB hcode hmT hu hT hdef (fun y hy e => absurd e (hfree y hy)) fun f c' pm ctv H2 s2 I2 eN T2 hf hfn hfr hco => ?_))
  refine wpAny_bind (wpAny_standAt (wpAny_pure (wpAny_evalAll_nil ?_)))
  rw [hclo] at hf
  show wpAny (model X.prog X.w) X.A (call (.builtin "sorted") [.ref d] [(Str.ofString "key", .ref f)]) _ _ _
  have hL : f ≠ X.env.locals := fun e => by
    obtain ⟨m, ⟨o, es, ep, ho, hd', _⟩, _⟩ := I2.loc
    rw [← e, hf] at ho
    cases ho
    cases hd'
  have I3 := Inv_pin (s := _) (I2.tok s2.toks) hf hfn hfr hL (fun v z => nomatch z)
  have hK := kcall_lam (X := X) (pins := (f, PySem.W.kla_obj "<lambda>" (X.env.qual ++ "<lambda>") params body scope [] pm c' ctv) :: pins) (H0 := H2) hr S List.mem_cons_self hco (fun u => hbind _ _ _ _ u) hbody hread
  have fin : ∀ H' p, Same H2 H' → H2 p = none → H' p = some (.lst ((sortT kf ts).map tx)) → Q (.ref p) H' := fun H' p sm hp hl' =>
    q H' p (eN.trans (LamX.ExtN.of sm)) (T2.ext sm) (fun b o hb ho e => by rw [e] at hb; rw [eN _ _ hb ho] at hp; cases hp) hl'
  have back : ∀ v s', EP X ((f, PySem.W.kla_obj "<lambda>" (X.env.qual ++ "<lambda>") params body scope [] pm c' ctv) :: pins) σ Q v s' → EP X pins σ Q v s' := fun v s' ⟨v', H', J, rv, qq⟩ => ⟨v', H', Inv_unpin J, rv, qq⟩
  rcases hd with ⟨kvs, hd, hk⟩ | hd
  · have hd2 := eN _ _ hd (fun ps z => nomatch z)
    exact wpAny_mono (sorted_keyD hcalm hr (fun x => PyProof.Rows.ksk_t1 f x) hK I3 hd2 hk hl fin) back fun _ _ z => z
  · have hd2 := eN _ _ hd (fun ps z => nomatch z)
    exact wpAny_mono (sorted_key hr (fun x => PyProof.Rows.ksk_t1 f x) hK I3 (.inl (.inl hd2)) hl fin) back fun _ _ z => z
end
end L3
/-! The end of a law row: the law's def is run where no repr is under way; tables of code objects; the script's bits. -/
namespace L3
open PySem PySem.Spec PyProof.Rows L2
/-- the tracked heap at the law's call: the script (locked), where it is not written, and the tables -/
def H0 (K : PySem.W.Frag) (a : Addr) (vs : List Value) (ns : List Int) (cs : List (Addr × Addr)) : Hp := fun b =>
  if b = a then (if (K.lookup a).isSome then none else some (.frz { cls := .type "list", data := .seq vs.toArray } (.lst (ns.map V.int)))) else if b ∈ cs.map (·.2) then some (.tbl #[]) else none
theorem law_callG {P : Program} {w : World} {K : PySem.W.Frag} {mg mb : Str → Option Value} {k : Nat} {fa a : Addr} {cs : List (Addr × Addr)} {fd : FuncData} {x : Str} {sp : Sp} {s₁ : Shared} {vs : List Value} {ns : List Int}
    (KX : K.In s₁.heap) (hns : s₁.heap.Ns mainGlobals mg) (hb : s₁.heap.Ns builtinsNs mb) (hbb : ∀ x : Str, x ≠ "__name__" → mb x = bootBuiltins x) (hlim : s₁.heap.NoLimit) (hg : s₁.gens = #[])
    (hT : ∀ p ∈ cs, s₁.heap.get? p.2 = some { cls := .none, data := .fields #[] }) (nT : ∀ p ∈ cs, K.lookup p.2 = none) (C : ∀ p ∈ cs, PySem.W.CodeHd s₁.heap p.1 p.2)
    (hbm : ∃ (bm : Addr) (ob : Obj), mg "__builtins__" = some (.ref bm) ∧ bm ≠ builtinsNs ∧ s₁.heap.get? bm = some ob ∧ ob.cls = .type "module" ∧ ob.dict = some builtinsNs ∧ ob.data = .plain)
    (ha : s₁.heap.get? a = some { cls := .type "list", data := .seq vs.toArray }) (hi : IntsAre vs ns) (hl : ns.length ≤ sizeLine) (hr : Room k callerA)
    (F : ∀ base : Heap, K.In base → base.Ns mainGlobals mg → (∀ p ∈ cs, LamX.TabB base mg p.1 p.2) → FnOkG P w K mg base CX0 k fa fd [x] sp) (hbind : L2.Binds K fd [x] [])
    (hsp : ∀ H : Hp, (∀ p ∈ cs, H p.2 = some (.tbl #[])) → SqL K H a (ns.map V.int) → sp [.ref a] H (fun v _ => v = .bl true) fun _ _ _ => False) :
    codeAny (model P w) callerA (.call (.ref fa) ⟨[.ref a], []⟩) (fun r s' => r = .ok (.ret (.bool true)) ∧ OldK s₁.heap s'.heap ∧ s'.os = s₁.os ∧ AllBare s'.gens) s₁ := by
  have rv := vals_ints hi
  have lenV := hi.length
  have isT : ∀ b : Addr, b ∈ cs.map (·.2) → s₁.heap.get? b = some { cls := .none, data := .fields #[] } := fun b hb => by
    obtain ⟨p, hp, e⟩ := List.mem_map.mp hb
    rw [← e]; exact hT p hp
  have aT : a ∉ cs.map (·.2) := fun z => by
    have q := isT a z
    rw [ha] at q
    cases congrArg Obj.data (Option.some.inj q)
  have memT : ∀ p ∈ cs, p.2 ∈ cs.map (·.2) := fun p hp => List.mem_map.mpr ⟨p, hp, rfl⟩
  -- the three cases of H0
  have hcase : ∀ b, (b = a ∧ H0 K a vs ns cs b = none ∧ (K.lookup a).isSome = true) ∨ (b = a ∧ K.lookup a = none ∧ H0 K a vs ns cs b = some (.frz { cls := .type "list", data := .seq vs.toArray } (.lst (ns.map V.int)))) ∨
      (b ≠ a ∧ b ∈ cs.map (·.2) ∧ H0 K a vs ns cs b = some (.tbl #[])) ∨ (b ≠ a ∧ b ∉ cs.map (·.2) ∧ H0 K a vs ns cs b = none) := fun b => by
    unfold H0
    by_cases e : b = a
    · rw [if_pos e]
      cases hk : K.lookup a with
      | some o => exact .inl ⟨e, rfl, rfl⟩
      | none => exact .inr (.inl ⟨e, rfl, rfl⟩)
    · rw [if_neg e]
      by_cases e2 : b ∈ cs.map (·.2)
      · rw [if_pos e2]; exact .inr (.inr (.inl ⟨e, e2, rfl⟩))
      · rw [if_neg e2]; exact .inr (.inr (.inr ⟨e, e2, rfl⟩))
  have tabAt : ∀ p ∈ cs, H0 K a vs ns cs p.2 = some (.tbl #[]) := fun p hp => by
    rcases hcase p.2 with ⟨e, _⟩ | ⟨e, _⟩ | ⟨_, _, z⟩ | ⟨_, n, _⟩
    · exact absurd (e ▸ memT p hp) aT
    · exact absurd (e ▸ memT p hp) aT
    · exact z
    · exact absurd (memT p hp) n
  have free : ∀ {b : Addr} {o : Obj}, s₁.heap.get? b = some o → (∀ vs n, o.data ≠ .seq vs n) → o.data ≠ .fields #[] → H0 K a vs ns cs b = none := fun {b o} e h1 h2 => by
    rcases hcase b with ⟨_, z, _⟩ | ⟨e', _⟩ | ⟨_, e', _⟩ | ⟨_, _, z⟩
    · exact z
    · rw [e', ha] at e
      cases e
      exact absurd rfl (h1 _ _)
    · rw [isT b e'] at e
      cases e
      exact absurd rfl h2
    · exact z
  have nsK : ∀ {b : Addr} {m : Str → Option Value}, s₁.heap.Ns b m → (hidT s₁.heap (H0 K a vs ns cs)).Ns b m := fun {b m} ⟨o, es, ep, e, d, r⟩ =>
    ⟨o, es, ep, hidT_get e (free e (fun vs n z => by rw [d] at z; cases z) fun z => by rw [d] at z; cases z), d, r⟩
  have hKb : K.In (hidT s₁.heap (H0 K a vs ns cs)) := fun b o e => hidT_get (KX b o e) (by
    rcases hcase b with ⟨_, z, _⟩ | ⟨e', n, _⟩ | ⟨_, e', _⟩ | ⟨_, _, z⟩
    · exact z
    · rw [e', n] at e; cases e
    · obtain ⟨p, hp, ep⟩ := List.mem_map.mp e'
      rw [← ep, nT p hp] at e
      cases e
    · exact z)
  have hM : L2.Mod K mg (hidT s₁.heap (H0 K a vs ns cs)) := ⟨hKb, nsK hns, ⟨mb, nsK hb, hbb⟩, let ⟨mc, h1, h2⟩ := hlim; ⟨mc, nsK h1, h2⟩⟩
  have TB : ∀ p ∈ cs, LamX.TabB (hidT s₁.heap (H0 K a vs ns cs)) mg p.1 p.2 := fun p hp => by
    have hTp := hT p hp
    refine ⟨?_, ?_, fun z => ?_⟩
    · obtain ⟨o, us, file, tf, flags, tg, inF, text, tt, e1, r1, r2, r3, r⟩ := C p hp
      refine ⟨o, us, file, tf, flags, tg, inF, text, tt, hidT_get e1 (free e1 (fun vs n z => by rw [r2] at z; cases z) fun z => ?_), r1, r2, r3, r⟩
      rw [r2] at z
      cases z
      simp at r3
    · obtain ⟨bm, ob, b1, b2, b3, b4, b5, b6⟩ := hbm
      refine ⟨bm, ob, b1, b2, fun q => ?_, fun q => ?_, hidT_get b3 (free b3 (fun vs n z => by rw [b6] at z; cases z) fun z => by rw [b6] at z; cases z), b4, b5, b6⟩
      · obtain ⟨o, es, ep, e, hd, _⟩ := hns
        rw [q, e] at b3
        cases b3
        rw [hd] at b6
        cases b6
      · rw [q, hTp] at b3
        cases b3
        cases b6
    · obtain ⟨o, es, ep, e, hd, _⟩ := hns
      rw [z, hTp] at e
      cases e
      cases hd
  have hok : HOk P w (H0 K a vs ns cs) s₁.heap := fun b u z => by
    rcases hcase b with ⟨_, n, _⟩ | ⟨e', _, q⟩ | ⟨_, e', q⟩ | ⟨_, _, n⟩
    · rw [n] at z; cases z
    · rw [q] at z
      cases z
      rw [e']
      exact ⟨ha, by rw [List.length_map]; exact hl, vs, _, rv, ha⟩
    · rw [q] at z
      cases z
      exact isT b e'
    · rw [n] at z; cases z
  have hS : SqL K (H0 K a vs ns cs) a (ns.map V.int) := by
    rcases hcase a with ⟨_, _, hk⟩ | ⟨_, _, q⟩ | ⟨n, _⟩ | ⟨n, _⟩
    · obtain ⟨o, hk⟩ := Option.isSome_iff_exists.mp hk
      have e := KX a o hk
      rw [ha] at e
      cases e
      exact .inr ⟨_, vs.toArray, _, hk, rfl, rfl, rfl, by rw [List.size_toArray, lenV]; exact hl, by simpa using rv⟩
    · exact .inl (.inr ⟨_, q⟩)
    · exact absurd rfl n
    · exact absurd rfl n
  have e0 : Env0 P w K mg (hidT s₁.heap (H0 K a vs ns cs)) callerA [] s₁ (H0 K a vs ns cs) := ⟨rfl, hM, fun b o e => of_hidT e, Nat.le_of_eq (hidT_size _ _), trivial, fun b hb => absurd (show b ∈ ([] : List Addr) from hb) (by simp), hok, .of_eq hg⟩
  refine codeAny_mono ((F _ hKb (nsK hns) TB).run callerA [] s₁ (H0 K a vs ns cs) ⟨[.ref a], []⟩ [.ref a] [.ref a] _ _ hr rfl e0 (hbind s₁ [.ref a] KX rfl) (.cons rfl .nil) (hsp _ tabAt hS)) fun r s' h => ?_
  cases r with
  | error e => exact (show False from h).elim
  | ok fl =>
    cases fl with
    | next => exact False.elim h
    | brk => exact False.elim h
    | cont => exact False.elim h
    | ret u =>
      obtain ⟨v, H', os, bare, un, hok', r', q⟩ := h
      have q' : v = .bl true := q
      subst q'
      obtain rfl : u = Value.bool true := r'
      have key : ∀ b o, b ∉ cs.map (·.2) → s₁.heap.get? b = some o → s'.heap.get? b = some o := fun b o nb e => by
        rcases hcase b with ⟨_, n, _⟩ | ⟨_, _, z⟩ | ⟨_, e', _⟩ | ⟨_, _, n⟩
        · exact un.keep b o e n (fun z => absurd (show b ∈ ([] : List Addr) from z) (by simp)) (by simp)
        · have z2 := un.frzs b _ _ z
          obtain ⟨e1, _⟩ := hok b _ z
          obtain ⟨e2, _⟩ := hok' b _ z2
          rw [e] at e1
          cases e1
          exact e2
        · exact absurd e' nb
        · exact un.keep b o e n (fun z => absurd (show b ∈ ([] : List Addr) from z) (by simp)) (by simp)
      have grown : ∀ p ∈ cs, ∃ more : Array Value, s'.heap.get? p.2 = some { cls := .none, data := .fields more } := fun p hp => by
        obtain ⟨more, z⟩ := un.tbls p.2 #[] (tabAt p hp)
        exact ⟨_, hok' p.2 _ z⟩
      refine ⟨rfl, ⟨fun b o e => ?_, fun b o e => ?_⟩, os, bare⟩
      · by_cases hb : b ∈ cs.map (·.2)
        · obtain ⟨p, hp, ep⟩ := List.mem_map.mp hb
          obtain ⟨more, hm⟩ := grown p hp
          rw [← ep] at e ⊢
          rw [hT p hp] at e
          cases e
          exact .inr (.inl ⟨((C p hp).tab (hT p hp)).isCodeTable, rfl, #[], more, rfl, by rw [Array.empty_append]; exact hm⟩)
        · exact .inl (key b o hb e)
      · by_cases hb : b ∈ cs.map (·.2)
        · obtain ⟨p, hp, ep⟩ := List.mem_map.mp hb
          obtain ⟨more, hm⟩ := grown p hp
          rw [← ep]
          exact ⟨_, hm⟩
        · exact ⟨o, key b o hb e⟩
end L3
/-! Comprehensions by what holds of the list so far; heaps that grow. -/
namespace L3
open PySem PySem.Spec PyProof.Rows L2
theorem same_upd {H : Hp} {p : Addr} {o : HO} (h : H p = none) : Same H (upd H p o) := fun b x e => by
  rw [upd_ne (ne_of_none e h)]
  exact e
theorem same_up {H H' : Hp} {p : Addr} {o : HO} (s : Same H H') (h : H p = none) : Same H (upd H' p o) := fun b x e => by
  rw [upd_ne (ne_of_none e h)]
  exact s b x e
/-- a comprehension: R of the heap, A of the list so far -/
theorem lc_gen {J : It} {n : Nat} {G : Hp → Prop} {Y : Nat → Hp → V → Hp → Prop} (w : Walk J n G Y) {g : TG} {tt : TT} {te : TE} {vs : List Nat} {σ : L2.St} {H1 : Hp} {D : Addr} {Qd : Hp → Prop} (R : Hp → Prop) (A : Nat → List V → Prop) (hz : n ≤ sizeLine) (hA : ∀ i acc, A i acc → acc.length ≤ i)
    (h0 : A 0 []) (r0 : R (upd H1 D (.lst []))) (r1 : ∀ H x, R H → R (upd H D x)) (hG : ∀ H, R H → G H)
    (hs : ∀ i x H H' acc (C : VK) (N : Hp → Prop), i < n → R H → H D = some (.lst acc) → A i acc → Y i H x H' → (∀ v H4, R H4 → H4 D = some (.lst acc) → A (i + 1) (acc ++ [v]) → C v H4) → (∀ H3, R H3 → H3 D = some (.lst acc) → A (i + 1) acc → N H3) →
      g x (wipe σ vs) H' fun σ2 H2 => wipe σ2 vs = wipe σ vs ∧ tt σ2 H2 fun b H3 => if b = true then te σ2 H3 C else N H3)
    (hd : ∀ H xs, R H → H D = some (.lst xs) → A n xs → Qd H) :
    ∃ W : Nat → Nat → Hp → Prop, (∃ m, W 0 m (upd H1 D (.lst []))) ∧ ∀ i m H, W i m H →
      (J.stop i H ∧ Qd H) ∨ (J.go i H ∧ ∃ Nx : Hp → Prop, (∀ H', Nx H' → ∃ m', m' < m ∧ W (i + 1) m' H') ∧ ∀ x H', J.yld i H x H' → g x (wipe σ vs) H' fun σ2 H2 => wipe σ2 vs = wipe σ vs ∧ tt σ2 H2 fun b H3 =>
        if b = true then te σ2 H3 fun y H4 => ∃ acc, H4 D = some (.lst acc) ∧ acc.length < sizeLine ∧ Nx (upd H4 D (.lst (acc ++ [y]))) else Nx H3) := by
  refine lc_it w (fun i H => R H ∧ ∃ acc, H D = some (.lst acc) ∧ A i acc) ⟨r0, [], upd_same, h0⟩ (fun i H _ p => hG H p.1) (fun i x H H' hi p y => ?_) fun H p => ?_
  · obtain ⟨rH, acc, hD, ha⟩ := p
    refine hs i x H H' acc _ _ hi rH hD ha y (fun v H4 r4 d4 a4 => ⟨acc, d4, ?_, r1 _ _ r4, _, upd_same, a4⟩) (fun H3 r3 d3 a3 => ⟨r3, acc, d3, a3⟩)
    have := hA i acc ha
    omega
  · obtain ⟨rH, acc, hD, ha⟩ := p
    exact hd H acc rH hD ha
/-- no test -/
theorem yes_te {te : TE} {σ : L2.St} {H : Hp} {C : VK} {N : Hp → Prop} (h : te σ H C) : tYes σ H fun b H3 => if b = true then te σ H3 C else N H3 := by
  show (if true = true then te σ H C else N H)
  rw [if_pos rfl]
  exact h
/-- what R asks where nothing but the new list is made -/
theorem same_r0 {H1 : Hp} {D : Addr} (h : H1 D = none) : Same H1 (upd H1 D (.lst [])) := same_upd h
section
variable {X : Cx}
theorem call_lenT : CallR X (.builtin "len") (fun xs H Q => ∃ l, xs = [tx l] ∧ l.length ≤ sizeLine ∧ Q (.int (l.length : Int)) H) := by
  intro pins s σ H xs us Q I r h
  obtain ⟨l, rfl, hz, q⟩ := h
  exact call_len_str pins s σ H _ us Q I r ⟨_, rfl, by rw [tS_len]; exact hz, by rw [tS_len]; exact q⟩
theorem ix_tx : IxR X (fun x y H Q => ∃ (l : List Nat) (i c : Nat), x = tx l ∧ y = .int (i : Int) ∧ l.length ≤ sizeLine ∧ l[i]? = some c ∧ Q (tx [c]) H) := by
  intro value slice pins s σ H x y v u Q I rx ry h hs
  obtain ⟨l, i, c, rfl, rfl, hz, he, q⟩ := h
  exact ix_str value slice pins s σ H _ _ v u Q I rx ry ⟨_, _, c, rfl, rfl, by rw [tS_len]; exact hz, atI_nat he, q⟩ hs
theorem mt_findT : MtR X "str.find" (fun x xs H Q => ∃ (l : List Nat) (c k : Nat), x = tx l ∧ xs = [tx [c], .int (k : Int)] ∧ ((∀ v : Nat, k ≤ v → l[v]? ≠ some c) → Q (.int (-1)) H) ∧
    ∀ j : Nat, k ≤ j → l[j]? = some c → (∀ v : Nat, k ≤ v → v < j → l[v]? ≠ some c) → Q (.int (j : Int)) H) := by
  intro pins s σ H x xs v us Q I rx r h
  obtain ⟨l, c, k, rfl, rfl, q1, q2⟩ := h
  refine mt_find3 pins s σ H _ _ v us Q I rx r ⟨_, _, _, rfl, rfl, ?_⟩
  have hf : fromIndex (tS l).length (k : Int) = k := by
    unfold fromIndex
    rw [if_neg (by omega)]
    omega
  have hg : ∀ v, v < l.length → ((tS l).cps.getD v 0 = c ↔ l[v]? = some c) := fun v hv => by
    have e : (tS l).cps.getD v 0 = l[v] := by simp [tS, Array.getD, hv]
    rw [e, List.getElem?_eq_getElem hv]
    constructor
    · rintro rfl; rfl
    · exact fun z => Option.some.inj z
  rcases StrLaws.find3_spec (tS l) c (k : Int) with ⟨e, hn⟩ | ⟨j, e, h1, h2, h3, h4⟩
  · rw [show Txt.find3 (tS l) (tS [c]) (k : Int) = -1 from e]
    refine q1 fun v hv z => ?_
    have hlt := (List.getElem?_eq_some_iff.mp z).1
    rw [hf] at hn
    exact hn v hv (by rw [tS_len]; exact hlt) ((hg v hlt).mpr z)
  · rw [show Txt.find3 (tS l) (tS [c]) (k : Int) = (j : Int) from e]
    rw [hf] at h1 h4
    rw [tS_len] at h2
    exact q2 j h1 ((hg j h2).mp h3) fun v hv hj z => h4 v hv hj ((hg v (by omega)).mpr z)
end
theorem walk_tx {l : List Nat} : Walk (Its (tS l)) l.length (fun _ => True) (fun i H v H' => H' = H ∧ ∃ c, l[i]? = some c ∧ v = tx [c]) := by
  have e : (tS l).cps.size = l.length := tS_len l
  refine ⟨fun i _ hi _ => ?_, fun _ _ => ?_, fun i H v H' _ _ y => ?_⟩
  · show i < (tS l).cps.size
    rw [e]; exact hi
  · show (tS l).cps.size ≤ l.length
    rw [e]; exact Nat.le_refl _
  · obtain ⟨h1, c, h2, h3⟩ := y
    exact ⟨h1, c, by simpa [tS] using h2, h3⟩
/-- a def whose code object is told -/
theorem okC {P : Program} {w : World} {K : PySem.W.Frag} {mg : Str → Option Value} {base : Heap} {x qual : Str} {st : Stmt} {f : Addr} {fd : FuncData} {N ps : List Str} {k : Nat} {sp : Sp} (F : Fun K x qual st f fd) (S : FnScope N ps (defScope st)) (len : ∀ vs H Q E, sp vs H Q E → vs.length = ps.length)
    (hbody : ∀ (A : Around) (outer : List Env) (s : Shared) (H : Hp) (vs : List V) (Q : VK) (E : XK), Room k (A.deeper (envOfC qual (defScope st) s.heap.objs.size f fd.code)) → A.guards = some [] → sp vs H Q E →
      ∃ t, PSs (cxOf CX0 P w K mg base N qual (defScope st) f fd.code A outer s H E).nox (defBody st) t ∧ t { nx := fun _ H' => Q .non H', rt := Q } (L2.start N vs) H) : FnOkG P w K mg base CX0 (k + 1) f fd ps sp := by
  obtain ⟨oc, od, kV, doc, pm, an, cdv, ct, osl, rfl, lk, hcd⟩ := F.ex
  refine fn_ofG lk hcd S len fun A outer s H vs Q E hr hg hsp => ?_
  obtain ⟨t, h, q⟩ := hbody A outer s H vs Q E hr hg hsp
  exact ⟨t, h.nox, q⟩
end L3
/-! Data that is shown: texts, ints, bools in lists. Calls with keywords alone. -/
namespace L3
open PySem PySem.Spec PyProof.Rows L2
/-- what repr asks of data -/
structure Shw (d : PyData) : Prop where
  s : d.showable = true
  z : d.shown.length ≤ sizeLine
  p : d.depth ≤ 50
def dTx (ls : List (List Nat)) : List PyData := ls.map fun l => PyData.str (tS l)
theorem dp_txs {K : PySem.W.Frag} {H : Hp} : ∀ ls : List (List Nat), DpAll K H (ls.map tx) (dTx ls)
  | [] => .nil
  | l :: ls => .cons (.str _) (dp_txs ls)
theorem showAll_txs : ∀ ls : List (List Nat), PyData.showableAll (dTx ls) = true
  | [] => rfl
  | l :: ls => by
    show (PyData.showable (.str (tS l)) && PyData.showableAll (dTx ls)) = true
    rw [showAll_txs ls]
    rfl
theorem depthAll_txs : ∀ ls : List (List Nat), PyData.depthAll (dTx ls) = 0
  | [] => rfl
  | l :: ls => by
    show max (PyData.depth (.str (tS l))) (PyData.depthAll (dTx ls)) = 0
    rw [depthAll_txs ls]
    simp [PyData.depth]
theorem leavesAll_txs {B : Nat} : ∀ ls : List (List Nat), (∀ l ∈ ls, ∀ c ∈ l, c < 1114112) → PyData.leavesShortAll B (dTx ls) = true
  | [], _ => rfl
  | l :: ls, h => by
    show (PyData.leavesShort B (.str (tS l)) && PyData.leavesShortAll B (dTx ls)) = true
    rw [leavesAll_txs ls fun l' hl => h l' (List.mem_cons_of_mem _ hl), Bool.and_true]
    simp only [PyData.leavesShort, List.all_eq_true, decide_eq_true_eq]
    intro c hc
    have := h l List.mem_cons_self c (by simpa [tS] using hc)
    have e : 16 ^ 8 = 4294967296 := by decide
    omega
theorem weightAll_txs {B : Nat} : ∀ ls : List (List Nat), (∀ l ∈ ls, l.length ≤ B) → PyData.weightAll (dTx ls) ≤ (B + 1) * ls.length
  | [], _ => Nat.zero_le _
  | l :: ls, h => by
    have ih := weightAll_txs ls fun l' hl => h l' (List.mem_cons_of_mem _ hl)
    have h1 := h l List.mem_cons_self
    show PyData.weight (.str (tS l)) + 1 + PyData.weightAll (dTx ls) ≤ _
    have e : PyData.weight (.str (tS l)) = l.length := by simp [PyData.weight, tS]
    rw [e, List.length_cons, Nat.mul_succ]
    omega
theorem shw_txs {B n : Nat} {ls : List (List Nat)} (hc : ∀ l ∈ ls, ∀ c ∈ l, c < 1114112) (hl : ∀ l ∈ ls, l.length ≤ B) (hn : ls.length ≤ n) (hBn : (B + 1) * n ≤ 1048576) : Shw (.list (dTx ls)) := by
  refine ⟨?_, PyData.shown_fits (B := 8) (by decide) (by decide) ?_ ?_, ?_⟩
  · simp only [PyData.showable]; exact showAll_txs ls
  · simp only [PyData.leavesShort]; exact leavesAll_txs ls hc
  · simp only [PyData.weight]
    have h1 := weightAll_txs ls hl
    have h2 : (B + 1) * ls.length ≤ (B + 1) * n := Nat.mul_le_mul_left _ hn
    have e : (2 : Nat) ^ 20 = 1048576 := by decide
    omega
  · simp only [PyData.depth, depthAll_txs]; decide
theorem shw_bl (b : Bool) : Shw (.bool b) := ⟨by simp [PyData.showable], by cases b <;> decide +kernel, by simp [PyData.depth]⟩
theorem shw_bls (bs : List Bool) (h : bs.length ≤ 1000) : Shw (.list (bs.map PyData.bool)) := by
  have a1 : ∀ bs : List Bool, PyData.showableAll (bs.map PyData.bool) = true := fun bs => by
    induction bs with
    | nil => rfl
    | cons b bs ih => show (PyData.showable (.bool b) && _) = true; rw [ih]; rfl
  have a2 : ∀ bs : List Bool, PyData.leavesShortAll 8 (bs.map PyData.bool) = true := fun bs => by
    induction bs with
    | nil => rfl
    | cons b bs ih => show (PyData.leavesShort 8 (.bool b) && _) = true; rw [ih]; rfl
  have a3 : ∀ bs : List Bool, PyData.weightAll (bs.map PyData.bool) = bs.length := fun bs => by
    induction bs with
    | nil => rfl
    | cons b bs ih => show PyData.weight (.bool b) + 1 + PyData.weightAll (bs.map PyData.bool) = _; rw [ih]; simp [PyData.weight]; omega
  have a4 : ∀ bs : List Bool, PyData.depthAll (bs.map PyData.bool) = 0 := fun bs => by
    induction bs with
    | nil => rfl
    | cons b bs ih => show max (PyData.depth (.bool b)) _ = 0; rw [ih]; simp [PyData.depth]
  refine ⟨?_, PyData.shown_fits (B := 8) (by decide) (by decide) ?_ ?_, ?_⟩
  · simp only [PyData.showable]; exact a1 bs
  · simp only [PyData.leavesShort]; exact a2 bs
  · simp only [PyData.weight, a3]
    have e : (2 : Nat) ^ 20 = 1048576 := by decide
    omega
  · simp only [PyData.depth, a4]; decide
theorem shw_ints (ns : List Int) (h : ns.length ≤ 1000) (hn : ∀ n ∈ ns, n.natAbs < 1000000000) : Shw (.list (ns.map PyData.int)) := by
  have hlog : ∀ n : Int, n.natAbs < 1000000000 → n.natAbs.log2 < 30 := fun n h => by
    by_cases e : n.natAbs = 0
    · rw [e]; decide
    · exact (Nat.log2_lt e).mpr (Nat.lt_trans h (by decide))
  have hlen : ∀ n : Int, n.natAbs < 1000000000 → (PyData.shown (.int n)).length ≤ 10 := fun n h => by
    have e := int_text_length_le10 (a := n) (k := 9) (by decide) h
    simp only [PyData.shown]
    rw [PySem.ofString_length]
    omega
  have a1 : ∀ ns : List Int, (∀ n ∈ ns, n.natAbs < 1000000000) → PyData.showableAll (ns.map PyData.int) = true := fun ns => by
    induction ns with
    | nil => intro _; rfl
    | cons b bs ih =>
      intro h
      show (PyData.showable (.int b) && _) = true
      rw [ih fun n hn => h n (List.mem_cons_of_mem _ hn), Bool.and_true]
      simp only [PyData.showable, decide_eq_true_eq]
      have := hlog b (h b List.mem_cons_self)
      omega
  have a2 : ∀ ns : List Int, (∀ n ∈ ns, n.natAbs < 1000000000) → PyData.leavesShortAll 10 (ns.map PyData.int) = true := fun ns => by
    induction ns with
    | nil => intro _; rfl
    | cons b bs ih =>
      intro h
      show (PyData.leavesShort 10 (.int b) && _) = true
      rw [ih fun n hn => h n (List.mem_cons_of_mem _ hn), Bool.and_true]
      simp only [PyData.leavesShort, decide_eq_true_eq]
      exact hlen b (h b List.mem_cons_self)
  have a3 : ∀ ns : List Int, (∀ n ∈ ns, n.natAbs < 1000000000) → PyData.weightAll (ns.map PyData.int) ≤ 32 * ns.length := fun ns => by
    induction ns with
    | nil => intro _; exact Nat.zero_le _
    | cons b bs ih =>
      intro h
      have i1 := ih fun n hn => h n (List.mem_cons_of_mem _ hn)
      have i2 := hlog b (h b List.mem_cons_self)
      show PyData.weight (.int b) + 1 + PyData.weightAll (bs.map PyData.int) ≤ _
      have e : PyData.weight (.int b) ≤ 30 := by
        simp only [PyData.weight]
        split <;> omega
      rw [List.length_cons]
      omega
  have a4 : ∀ ns : List Int, PyData.depthAll (ns.map PyData.int) = 0 := fun ns => by
    induction ns with
    | nil => rfl
    | cons b bs ih => show max (PyData.depth (.int b)) _ = 0; rw [ih]; simp [PyData.depth]
  refine ⟨?_, PyData.shown_fits (B := 10) (by decide) (by decide) ?_ ?_, ?_⟩
  · simp only [PyData.showable]; exact a1 ns hn
  · simp only [PyData.leavesShort]; exact a2 ns hn
  · simp only [PyData.weight]
    have h1 := a3 ns hn
    have e : (2 : Nat) ^ 20 = 1048576 := by decide
    omega
  · simp only [PyData.depth, a4]; decide
theorem dp_bls {K : PySem.W.Frag} {H : Hp} : ∀ bs : List Bool, DpAll K H (bs.map V.bl) (bs.map PyData.bool)
  | [] => .nil
  | b :: bs => .cons (.bl b) (dp_bls bs)
theorem dp_ints {K : PySem.W.Frag} {H : Hp} : ∀ ns : List Int, DpAll K H (ns.map V.int) (ns.map PyData.int)
  | [] => .nil
  | b :: bs => .cons (.int b) (dp_ints bs)
/-! ### calls with keywords alone -/
def k1 {α : Type} : List α → List α → List α
  | [], [w] => [w]
  | _, _ => []
def k2 {α : Type} : List α → List α → List α
  | [], [w, v] => [v, w]
  | _, _ => []
theorem k1_rel : ∀ {vs : List V} {us : List Value} {zs : List V} {ws : List Value}, Vals vs us → Vals zs ws → Vals (k1 vs zs) (k1 us ws)
  | _, _, _, _, .nil, .nil => .nil
  | _, _, _, _, .nil, .cons r .nil => .cons r .nil
  | _, _, _, _, .nil, .cons _ (.cons _ _) => .nil
  | _, _, _, _, .cons _ _, .nil => .nil
  | _, _, _, _, .cons _ _, .cons _ _ => .nil
theorem k2_rel : ∀ {vs : List V} {us : List Value} {zs : List V} {ws : List Value}, Vals vs us → Vals zs ws → Vals (k2 vs zs) (k2 us ws)
  | _, _, _, _, .nil, .nil => .nil
  | _, _, _, _, .nil, .cons _ .nil => .nil
  | _, _, _, _, .nil, .cons r (.cons s .nil) => .cons s (.cons r .nil)
  | _, _, _, _, .nil, .cons _ (.cons _ (.cons _ _)) => .nil
  | _, _, _, _, .cons _ _, .nil => .nil
  | _, _, _, _, .cons _ _, .cons _ _ => .nil
/-- f(n = v) -/
theorem kb1 {K : PySem.W.Frag} {x n : Str} {st : Stmt} {f : Addr} {fd : FuncData} (F : Fun K x x st f fd)
    (h : ∀ (kV doc pm : Value) (an : Option Addr) (cdv ct w : Value), bindArgs (PySem.W.fnOf x x (defArgs st) (defBody st) (defScope st) .none kV doc pm an cdv ct) ⟨[], [(n, w)]⟩ = pure [(n, w)]) : KBinds K fd [n] [n] k1 k1 := by
  refine ⟨fun s us ws X hl => ?_, k1_rel⟩
  obtain ⟨oc, od, kV, doc, pm, an, cdv, ct, osl, rfl, lk, hcd⟩ := F.ex
  match us, ws, hl with
  | [], [w], _ => exact .of_eq (h kV doc pm an cdv ct w)
/-- f(m = v, n = w), the other way round -/
theorem kb2 {K : PySem.W.Frag} {x n m : Str} {st : Stmt} {f : Addr} {fd : FuncData} (F : Fun K x x st f fd)
    (h : ∀ (kV doc pm : Value) (an : Option Addr) (cdv ct w v : Value), bindArgs (PySem.W.fnOf x x (defArgs st) (defBody st) (defScope st) .none kV doc pm an cdv ct) ⟨[], [(m, w), (n, v)]⟩ = pure [(n, v), (m, w)]) : KBinds K fd [n, m] [m, n] k2 k2 := by
  refine ⟨fun s us ws X hl => ?_, k2_rel⟩
  obtain ⟨oc, od, kV, doc, pm, an, cdv, ct, osl, rfl, lk, hcd⟩ := F.ex
  match us, ws, hl with
  | [], [w, v], _ => exact .of_eq (h kV doc pm an cdv ct w v)
end L3
/-! min of texts, with key= or not; what the order of keys says. -/
namespace L3
open PySem PySem.Spec PyProof.Rows L2
/-- the order of keys -/
def kLt (x y : Int × List Nat) : Prop := x.1 < y.1 ∨ (x.1 = y.1 ∧ x.2 < y.2)
instance (x y : Int × List Nat) : Decidable (kLt x y) := by unfold kLt; exact inferInstance
theorem lexStr (a b : List Nat) : PyProof.Rows.lexLt PyProof.Rows.itemOrd [Sum.inr a, Sum.inl 0] [Sum.inr b, Sum.inl 0] = decide (a < b) := by
  by_cases e : a = b
  · subst e
    rw [PyProof.Rows.lex_self]
    rw [decide_eq_false (List.lt_irrefl a)]
    decide +kernel
  · rw [PyProof.Rows.lex_diff (O := PyProof.Rows.itemOrd) (fun z => e (Sum.inr.inj z))]
    rfl
theorem dLt_key (kf : KF) (a b : List Nat) : PySem.W.dataLt (kD kf a) (kD kf b) = decide (kLt (kf a) (kf b)) := by
  show PyProof.Rows.lexLt PyProof.Rows.itemOrd [Sum.inl 1, Sum.inl (kf a).1, Sum.inl 1, Sum.inr (kf a).2, Sum.inl 0] [Sum.inl 1, Sum.inl (kf b).1, Sum.inl 1, Sum.inr (kf b).2, Sum.inl 0] = _
  rw [PyProof.Rows.lex_self]
  by_cases e : (kf a).1 = (kf b).1
  · rw [e, PyProof.Rows.lex_self, PyProof.Rows.lex_self, lexStr]
    refine decide_eq_decide.mpr ⟨fun h => .inr ⟨e, h⟩, fun h => ?_⟩
    rcases h with h | h
    · omega
    · exact h.2
  · rw [PyProof.Rows.lex_diff (O := PyProof.Rows.itemOrd) (fun z => e (Sum.inl.inj z))]
    show decide ((kf a).1 < (kf b).1) = _
    refine decide_eq_decide.mpr ⟨fun h => .inl h, fun h => ?_⟩
    rcases h with h | h
    · exact h
    · exact absurd h.1 e
theorem dLt_str (a b : List Nat) : PySem.W.dataLt (.str (tS a)) (.str (tS b)) = decide (a < b) := by
  show PyProof.Rows.lexLt PyProof.Rows.itemOrd [Sum.inr a] [Sum.inr b] = _
  by_cases e : a = b
  · subst e
    rw [PyProof.Rows.lex_self]
    rw [decide_eq_false (List.lt_irrefl a)]
    decide +kernel
  · rw [PyProof.Rows.lex_diff (O := PyProof.Rows.itemOrd) (fun z => e (Sum.inr.inj z))]
    rfl
theorem kLt_irr (x : Int × List Nat) : ¬ kLt x x := fun h => by
  rcases h with h | h
  · omega
  · exact List.lt_irrefl _ h.2
theorem kLt_tr {x y z : Int × List Nat} (a : kLt x y) (b : kLt y z) : kLt x z := by
  rcases a with a | ⟨a, a'⟩ <;> rcases b with b | ⟨b, b'⟩
  · exact .inl (by omega)
  · exact .inl (by omega)
  · exact .inl (by omega)
  · exact .inr ⟨by omega, List.lt_trans a' b'⟩
theorem kLt_ntr {x y z : Int × List Nat} (a : ¬ kLt y x) (b : ¬ kLt z y) : ¬ kLt z x := fun h => by
  unfold kLt at a b h
  have le1 : ¬ y.2 < x.2 → ¬ z.2 < y.2 → ¬ z.2 < x.2 := fun h1 h2 => List.not_lt.mpr (List.le_trans (List.not_lt.mp h1) (List.not_lt.mp h2))
  by_cases e1 : y.1 = x.1
  · by_cases e2 : z.1 = y.1
    · have n1 : ¬ y.2 < x.2 := fun k => a (.inr ⟨e1, k⟩)
      have n2 : ¬ z.2 < y.2 := fun k => b (.inr ⟨e2, k⟩)
      rcases h with h | h
      · omega
      · exact le1 n1 n2 h.2
    · have : ¬ z.1 < y.1 := fun k => b (.inl k)
      rcases h with h | h <;> omega
  · have h1 : ¬ y.1 < x.1 := fun k => a (.inl k)
    have h2 : ¬ z.1 < y.1 := fun k => b (.inl k)
    rcases h with h | h <;> omega
/-- the sorted list goes up -/
theorem sortT_up (kf : KF) (ts : List (List Nat)) : (sortT kf ts).Pairwise fun a b => ¬ kLt (kf b) (kf a) := by
  have hle : ∀ a b : List Nat, PySem.W.dataLe false (kD kf) a b = true ↔ ¬ kLt (kf b) (kf a) := fun a b => by
    show (!PySem.W.dataLt (kD kf b) (kD kf a)) = true ↔ _
    rw [dLt_key, Bool.not_eq_true', decide_eq_false_iff_not]
  have h := List.pairwise_mergeSort (le := PySem.W.dataLe false (kD kf)) (fun a b c h1 h2 => (hle a c).mpr (kLt_ntr ((hle a b).mp h1) ((hle b c).mp h2))) (fun a b => by
    by_cases e : kLt (kf b) (kf a)
    · rw [Bool.or_eq_true]; exact .inr ((hle b a).mpr fun k => kLt_irr _ (kLt_tr e k))
    · rw [Bool.or_eq_true]; exact .inl ((hle a b).mpr e)) ts
  exact h.imp fun {a b} k => (hle a b).mp k
theorem sortT_head {kf : KF} {ts : List (List Nat)} {m : List Nat} (h : (sortT kf ts)[0]? = some m) : m ∈ ts ∧ ∀ y ∈ ts, ¬ kLt (kf y) (kf m) := by
  have hp := sortT_perm kf ts
  have hu := sortT_up kf ts
  cases e : sortT kf ts with
  | nil => rw [e] at h; cases h
  | cons a l =>
    rw [e] at h hp hu
    cases h
    refine ⟨hp.mem_iff.mp List.mem_cons_self, fun y hy => ?_⟩
    rcases List.mem_cons.mp (hp.mem_iff.mpr hy) with rfl | hm
    · exact kLt_irr _
    · exact (List.pairwise_cons.mp hu).1 y hm
theorem argBest_min {bt : Nat → Nat → Bool} (irr : ∀ i, bt i i = false) (tr : ∀ i j k, bt i j = true → bt j k = true → bt i k = true) : ∀ k, argBest bt k ≤ k ∧ ∀ j, j ≤ k → bt j (argBest bt k) = false
  | 0 => ⟨Nat.le_refl _, fun j hj => by rw [Nat.le_zero.mp hj]; exact irr 0⟩
  | k + 1 => by
    obtain ⟨h1, h2⟩ := argBest_min irr tr k
    have e : argBest bt (k + 1) = if bt (k + 1) (argBest bt k) then k + 1 else argBest bt k := rfl
    rw [e]
    by_cases c : bt (k + 1) (argBest bt k) = true
    · rw [if_pos c]
      refine ⟨Nat.le_refl _, fun j hj => ?_⟩
      by_cases ej : j = k + 1
      · rw [ej]; exact irr _
      · cases hb : bt j (k + 1) with
        | false => rfl
        | true =>
          have := h2 j (by omega)
          rw [tr j (k + 1) _ hb c] at this
          cases this
    · rw [if_neg c]
      refine ⟨by omega, fun j hj => ?_⟩
      by_cases ej : j = k + 1
      · rw [ej]; simpa using c
      · exact h2 j (by omega)
section
variable {X : Cx} {pins : List (Addr × Obj)} {σ : L2.St} {H : Hp} {s : Shared}
/-- min(texts) -/
def rMinT (K : PySem.W.Frag) : List V → Hp → VK → Prop := fun vs H Q => ∃ (a : Addr) (ts : List (List Nat)), vs = [.ref a] ∧ SqL K H a (ts.map tx) ∧ ts ≠ [] ∧ ∀ m, m ∈ ts → (∀ y ∈ ts, ¬ y < m) → Q (tx m) H
theorem minD_txs : ∀ (ls : List (List Nat)) (l : List Nat), ∃ m, PySem.W.minD (.str (tS l)) (dTx ls) = .str (tS m) ∧ m ∈ l :: ls ∧ ∀ y ∈ l :: ls, ¬ y < m
  | [], l => ⟨l, rfl, List.mem_cons_self, fun y hy => by
      simp only [List.mem_singleton] at hy
      rw [hy]; exact List.lt_irrefl l⟩
  | b :: ls, l => by
    show ∃ m, PySem.W.minD (if PySem.W.dataLt (.str (tS b)) (.str (tS l)) = true then .str (tS b) else .str (tS l)) (dTx ls) = .str (tS m) ∧ _
    rw [dLt_str]
    by_cases c : b < l
    · rw [if_pos (decide_eq_true c)]
      obtain ⟨m, h1, h2, h3⟩ := minD_txs ls b
      refine ⟨m, h1, List.mem_cons_of_mem _ h2, fun y hy => ?_⟩
      rcases List.mem_cons.mp hy with rfl | hy
      · exact fun z => h3 b List.mem_cons_self (List.lt_trans c z)
      · exact h3 y hy
    · rw [if_neg (by simpa using c)]
      obtain ⟨m, h1, h2, h3⟩ := minD_txs ls l
      refine ⟨m, h1, ?_, fun y hy => ?_⟩
      · rcases List.mem_cons.mp h2 with rfl | h2
        · exact List.mem_cons_self
        · exact List.mem_cons_of_mem _ (List.mem_cons_of_mem _ h2)
      · rcases List.mem_cons.mp hy with rfl | hy
        · exact h3 _ List.mem_cons_self
        · rcases List.mem_cons.mp hy with rfl | hy
          · have h4 := h3 l List.mem_cons_self
            exact List.not_lt.mpr (List.le_trans (List.not_lt.mp h4) (List.not_lt.mp c))
          · exact h3 y (List.mem_cons_of_mem _ hy)
theorem reads_txs {h : Heap} : ∀ {ts : List (List Nat)} {vs : List Value}, Vals (ts.map tx) vs → ∃ as, ReadsAll h vs (dTx ts) as
  | [], _, r => by cases r; exact ⟨_, .nil⟩
  | _ :: _, _, r => by
    cases r with
    | cons r1 r2 =>
      obtain ⟨t, rfl⟩ := r1
      obtain ⟨as, k⟩ := reads_txs (h := h) r2
      exact ⟨_, .cons (.str _ _) k⟩
theorem cr_minT {k : Nat} (hc : X.calm = true) (hr : Room k X.A) : CallR X (.builtin "min") (rMinT X.K) := by
  intro pins s σ H vs us Q I r h
  obtain ⟨a, ts, rfl, hs, hne, q⟩ := h
  obtain ⟨its, rv, hl, _⟩ := I.list hs
  rw [Vals.ref1 r]
  cases ts with
  | nil => exact absurd rfl hne
  | cons l ls =>
    obtain ⟨as, hR⟩ := reads_txs (h := s.heap) rv
    have hdep : PyData.depthAll (dTx (l :: ls)) = 0 := depthAll_txs _
    have hu := hr.units
    refine PySem.W.min_list_data (I.ok.hd hc) hl.isList (x := .str (tS l)) (xs := dTx ls) hR ⟨fun x hx y hy => ?_, fun x hx => ?_⟩ (by show X.A.units + 1 + PyData.depthAll (dTx (l :: ls)) < cLine; rw [hdep]; omega) fun i v h' tk bs hi hRd hk => ?_
    · obtain ⟨x', _, rfl⟩ := List.mem_map.mp (show x ∈ dTx (l :: ls) from hx)
      obtain ⟨y', _, rfl⟩ := List.mem_map.mp (show y ∈ dTx (l :: ls) from hy)
      rfl
    · obtain ⟨x', _, rfl⟩ := List.mem_map.mp (show x ∈ dTx (l :: ls) from hx)
      exact fun z => by cases z
    · obtain ⟨m, h1, h2, h3⟩ := minD_txs ls l
      rw [h1] at hRd
      cases hRd
      exact ⟨tx m, H, I.kept hk, ⟨_, rfl⟩, q m h2 h3⟩
end
end L3
/-! min(texts, key=f), f a def. -/
namespace L3
open PySem PySem.Spec PyProof.Rows L2
section
variable {X : Cx} {pins : List (Addr × Obj)} {σ : L2.St} {H : Hp} {s : Shared}
theorem Inv.env00 (I : L2.Inv X pins σ H s) : Env0 X.prog X.w X.K X.mg X.base X.A X.stack s (fun _ => none) :=
  ⟨I.env0.frames, I.env0.mod, fun b o e => ⟨(I.env0.bs b o e).1, rfl⟩, I.env0.bsz, I.env0.funs, fun _ _ => rfl, (fun a o e => by cases e), I.env0.bare⟩
/-- a def that gives a key, run with nothing tracked: all that stood stays -/
theorem kcall_raw {k : Nat} {f : Addr} {fd : FuncData} {x : Str} {kf : KF} {l : List Nat} {t : Tok} {Q : Value → Shared → Prop} {E : Value → Shared → Prop} (F : FnOk X.prog X.w X.K X.mg X.base CX0 k f fd [x] (spKey kf)) (hr : Room (k + 1) X.A) (hb : L2.Binds X.K fd [x] []) (I : L2.Inv X pins σ H s) (hl : l.length ≤ sizeLine)
    (h : ∀ p s', L2.Inv X pins σ H s' → (∀ b o, s.heap.get? b = some o → b ∉ frs X.stack → s'.heap.get? b = some o) → s.heap.get? p = none → (∃ its, Vals [.int (kf l).1, tx (kf l).2] its ∧ IsTup s'.heap p its.toArray) → Q (.ref p) s') :
    wpAny (model X.prog X.w) X.A.in1 (call (.ref f) [.str (tS l) t]) Q E s := by
  have hb' : BindsTo s fd ⟨[.str (tS l) t], []⟩ ([x].zip [.str (tS l) t]) := hb s [.str (tS l) t] I.kIn rfl
  refine wpAny_call (codeAny_mono (F.run X.A.in1 X.stack s (fun _ => none) ⟨[.str (tS l) t], []⟩ [.str (tS l) t] [tx l] (fun v H' => ∃ p, v = .ref p ∧ H' p = some (.tup [.int (kf l).1, tx (kf l).2])) E0 hr.in1 (Inv.env00 I).in1 hb' (.cons ⟨t, rfl⟩ .nil) ⟨l, rfl, hl, fun H' p s1 hp => ⟨p, rfl, hp⟩⟩) fun r s' hq => ?_)
  cases r with
  | error e => exact (show False from hq).elim
  | ok fl =>
    cases fl with
    | ret u =>
      obtain ⟨v, H', os, bare, un, hok, rv, p, rfl, hp⟩ := hq
      cases rv
      have kp : ∀ b o, s.heap.get? b = some o → b ∉ frs X.stack → s'.heap.get? b = some o := fun b o e n => un.keep b o e rfl n (by simp)
      have tr : ∀ b u, H b = some u → b ∉ frs X.stack := fun b u e hb => by
        rw [I.stkFree b hb] at e
        cases e
      refine h p s' (I.call' (ch := []) os ⟨fun b o e _ nf _ => kp b o e nf, fun b o e _ bf bx => un.slot b o e rfl bf bx, fun b o _ n _ => n, un.there, fun _ _ e => e, fun _ _ _ e => e, fun b ps e => ⟨#[], by rw [e]; simp⟩⟩ (fun b u q => ?_) bare (fun b hb => by simp at hb)) kp ?_ ?_
      · refine (I.hok b u q).stay (fun d v hd q' => ?_) (fun _ e => e) fun _ _ e => e
        rcases hd with rfl | hd
        · exact kp _ _ q' (tr _ _ q)
        · exact kp _ _ q' (tr _ _ hd)
      · cases hlt : s.heap.get? p with
        | none => rfl
        | some o =>
          have := un.free p o hlt rfl (by simp)
          rw [this] at hp
          cases hp
      · obtain ⟨_, its, r, T⟩ := hok p _ hp
        exact ⟨its, r, T⟩
    | next => exact False.elim hq
    | brk => exact False.elim hq
    | cont => exact False.elim hq
theorem key_reads {h : Heap} {p : Addr} {kf : KF} {l : List Nat} {its : List Value} (r : Vals [.int (kf l).1, tx (kf l).2] its) (T : IsTup h p its.toArray) : ∃ as, Reads h (.ref p) (kD kf l) as := by
  obtain ⟨o, ho, hc, n, hd⟩ := T
  cases r with
  | cons r1 r2 =>
    cases r2 with
    | cons r2 r3 =>
      cases r3
      obtain ⟨t1, rfl⟩ := r1
      obtain ⟨t2, rfl⟩ := r2
      exact ⟨_, .tuple ho hc hd (.cons (.int _ _) (.cons (.str _ _) .nil))⟩
def rMinKey (f : Addr) (kf : KF) : List V → List V → Hp → VK → Prop := fun vs zs H Q => ∃ (a : Addr) (ts : List (List Nat)), vs = [.ref a] ∧ zs = [.ref f] ∧ H a = some (.lst (ts.map tx)) ∧ ts ≠ [] ∧ (∀ l ∈ ts, l.length ≤ sizeLine) ∧
  ∀ m, m ∈ ts → (∀ y ∈ ts, ¬ kLt (kf y) (kf m)) → Q (tx m) H
theorem cr_minKey {k : Nat} {f : Addr} {fd : FuncData} {x : Str} {kf : KF} (hc : X.calm = true) (F : FnOk X.prog X.w X.K X.mg X.base CX0 k f fd [x] (spKey kf)) (hr : Room (k + 1) X.A) (hb : L2.Binds X.K fd [x] []) : CallRK X (.builtin "min") [Str.ofString "key"] (rMinKey f kf) := by
  intro pins s σ H vs zs us ws Q I r rz h
  obtain ⟨a, ts, rfl, rfl, hS, hne, hl, q⟩ := h
  obtain rfl := Vals.ref1 r
  obtain rfl := Vals.ref1 rz
  obtain ⟨its, rv, hL, hz⟩ := I.list (show SqL X.K H a (ts.map tx) from .inl (.inl hS))
  have hlen : its.length = ts.length := by rw [← rv.length, List.length_map]
  have hu := hr.units
  have eS := each_strs rv
  have hval : ∀ (i : Nat) (v : Value), its.toArray[i]? = some v → ∃ t, v = Value.str (tS (ts.getD i [])) t := fun i v hx => by
    rw [List.getElem?_toArray] at hx
    have hi : i < its.length := (List.getElem?_eq_some_iff.mp hx).1
    have hlj : ts[i]? = some (ts.getD i []) := by
      rw [List.getD_eq_getElem?_getD, List.getElem?_eq_getElem (by omega)]
      rfl
    exact eS.zip (v, ts.getD i []) (List.mem_of_getElem? (i := i) (by rw [List.getElem?_zip_eq_some]; exact ⟨hx, hlj⟩))
  have haf : a ∉ frs X.stack := fun hb => by rw [I.stkFree a hb] at hS; cases hS
  refine call_min_walkK (PySem.W.iter_listW (A := X.A.in1) (I.ok.hd hc) hL.isList fun s₂ e W st hfp hw hk => ?_)
  have hit := above_ok (it := s.heap.objs.size) I (Nat.le_refl _)
  have hn1 : H s.heap.objs.size = none := I.hok.fresh (Nat.le_refl _)
  have hsz : s₂.heap.objs.size = s.heap.objs.size + 1 := by rw [e]; exact Heap.size_push _ _
  have hS2 := above_ok (it := s₂.heap.objs.size) I (by rw [hsz]; exact Nat.le_succ _)
  have hn2 : H s₂.heap.objs.size = none := I.hok.fresh (by rw [hsz]; exact Nat.le_succ _)
  have I2 : L2.Inv X pins σ H s₂ := by rw [e]; exact I.kept (t' := s.toks) fun b o q => Heap.get?_push_of_some _ q
  refine ⟨_, _, _, _, _, _, _, L2.Inv X pins σ H, fun i kv s' => ∃ p, kv = .ref p ∧ p ≠ s₂.heap.objs.size ∧ p ≠ s.heap.objs.size ∧ p ∉ frs X.stack ∧ ∃ its, Vals [.int (kf (ts.getD i [])).1, tx (kf (ts.getD i [])).2] its ∧ IsTup s'.heap p its.toArray,
    fun i j => PySem.W.dataLt (kD kf (ts.getD i [])) (kD kf (ts.getD j [])), rfl, W, st, hfp, ?_, ⟨?_, ?_, ?_, ?_⟩, I2, ?_⟩
  · rw [List.size_toArray, hlen]
    exact List.length_pos_iff.mpr hne
  · intro s1 s2 J m
    obtain ⟨h', g', d', t', o'⟩ := s2
    have e1 : o' = s1.os := m.os
    have e2 : g' = s1.gens := m.gens
    have e3 : d' = s1.drawn := m.drawn
    subst e1 e2 e3
    refine J.turnedL (ch := [s₂.heap.objs.size, s.heap.objs.size]) (fun b o hb q => m.heap b o hb q) fun b hb => ?_
    simp only [List.mem_cons, List.not_mem_nil, or_false] at hb
    rcases hb with rfl | rfl
    · exact I.fpOk (by rw [hsz]; exact Nat.le_succ _) hn2
    · exact I.fpOk (Nat.le_refl _) hn1
  · rintro i kv s1 s2 ⟨p, rfl, p1, p2, p3, its', r', o, ho, c⟩ m
    exact ⟨p, rfl, p1, p2, p3, its', r', o, m.heap p o (by simp [p1, p2]) ho, c⟩
  · intro i v s1 o Q' E' hi hP J hst hS hQ
    have hi' : i < ts.length := by rw [List.size_toArray, hlen] at hi; exact hi
    obtain ⟨t, rfl⟩ := hval i v hP
    have hg : ts.getD i [] = ts[i] := by simp [List.getD, hi']
    refine kcall_raw F hr hb J (by rw [hg]; exact hl _ (List.getElem_mem hi')) fun p s' J' kp hp hT => ?_
    obtain ⟨⟨oi, hoi, ri⟩, hli⟩ := hst
    have hitf : s.heap.objs.size ∉ frs X.stack := hit.2.2.2.2
    have hSf : s₂.heap.objs.size ∉ frs X.stack := hS2.2.2.2.2
    refine hQ (.ref p) s' J' ⟨⟨oi, kp _ _ hoi hitf, ri⟩, ?_⟩ (kp _ _ hS hSf) ⟨p, rfl, ?_, ?_, ?_, hT⟩ ?_
    · exact hli.at fun o e => kp _ _ e haf
    · exact fun z => by rw [z, hS] at hp; cases hp
    · exact fun z => by rw [z, hoi] at hp; cases hp
    · intro hb
      obtain ⟨_, o2, ho2, _⟩ := J.stack.mem hb
      rw [hp] at ho2
      cases ho2
    · rintro j kv ⟨p', rfl, p1, p2, p3, its', r', o', ho', c⟩
      exact ⟨p', rfl, p1, p2, p3, its', r', o', kp _ _ ho' p3, c⟩
  · rintro i j ki kj s1 Q' E' J ⟨p, rfl, _, _, _, its1, r1, T1⟩ ⟨p', rfl, _, _, _, its2, r2, T2⟩ hq
    obtain ⟨as1, R1⟩ := key_reads r1 T1
    obtain ⟨as2, R2⟩ := key_reads r2 T2
    refine PySem.W.rcLt_alike _ _ X.A.in1 s1 _ _ _ _ R1 R2 (kD_alike kf _ _) (fun z => by cases z) ?_ X.prog X.w E' Q' hq
    show X.A.units + 1 + _ < cLine
    have : min (kD kf (ts.getD i [])).depth (kD kf (ts.getD j [])).depth ≤ 2 := Nat.le_trans (Nat.min_le_left _ _) (by simp [kD, PyData.depth, PyData.depthAll])
    omega
  · intro v s' hP J
    rw [List.size_toArray, hlen] at hP
    obtain ⟨t, rfl⟩ := hval _ _ hP
    have hpos : 0 < ts.length := List.length_pos_iff.mpr hne
    obtain ⟨hb1, hb2⟩ := argBest_min (bt := fun i j => PySem.W.dataLt (kD kf (ts.getD i [])) (kD kf (ts.getD j []))) (fun i => by rw [dLt_key]; exact decide_eq_false (kLt_irr _)) (fun i j k h1 h2 => by
      rw [dLt_key] at h1 h2 ⊢
      exact decide_eq_true (kLt_tr (of_decide_eq_true h1) (of_decide_eq_true h2))) (ts.length - 1)
    refine ⟨tx _, H, J, ⟨t, rfl⟩, q _ ?_ fun y hy => ?_⟩
    · rw [List.getD_eq_getElem?_getD, List.getElem?_eq_getElem (by omega)]
      exact List.getElem_mem (by omega)
    · obtain ⟨j, hj, rfl⟩ := List.getElem_of_mem hy
      have := hb2 j (by omega)
      rw [dLt_key] at this
      have e2 : ts.getD j [] = ts[j] := by rw [List.getD_eq_getElem?_getD, List.getElem?_eq_getElem hj]; rfl
      rw [e2] at this
      exact of_decide_eq_false this
end
end L3
/-! Loops over a dict that nothing changes any more; cuts of lists. -/
namespace L3
open PySem PySem.Spec PyProof.Rows L2
/-- for k in e, e a dict: locked from here on -/
def iKeysN (td : TE) : TI := fun σ H R => td σ H fun x H1 => ∃ d kvs, x = .ref d ∧ H1 d = some (.dK kvs) ∧ ∀ o, R (Itk d o kvs) (upd H1 d (.frz o (.dK kvs)))
theorem pi_keysN {X : Cx} {tg e : Expr} {td : TE} (he : PE X e td) : PI X tg e (iKeysN td) := by
  refine ⟨fun pins s σ H R I h => ?_⟩
  refine thn (he.run pins s σ H _ I h) fun u s1 ⟨x, H1, I1, rx, d, kvs, ex, hd, q⟩ => ?_
  subst ex
  obtain rfl : u = Value.ref d := rx
  obtain ⟨od, I2⟩ := I1.lock hd trivial
  obtain ⟨hs, hgd, hx, es, ep, vs, hdt, hsz, kv, hm⟩ := I2.frzK upd_same
  refine iter_keys hs hgd hx hdt (pi_one (tk := s1.toks) I2 _ (turn_keys _ hdt) ⟨_, Heap.get?_push_size _ rfl, rfl, ?_⟩ (q od))
  rw [hsz] <;> rfl
theorem sq_put {K : PySem.W.Frag} {a D : Addr} {xs : List V} {H : Hp} {o : HO} (h : SqL K H a xs) (n : a ≠ D) : SqL K (upd H D o) a xs := by
  rcases h with (h | ⟨o', h⟩) | h
  · exact .inl (.inl (by rw [upd_ne n]; exact h))
  · exact .inl (.inr ⟨o', by rw [upd_ne n]; exact h⟩)
  · exact .inr h
theorem sq_new {K : PySem.W.Frag} {a D : Addr} {xs : List V} {H : Hp} {o : HO} (h : SqL K H a xs) (n : H D = none) : SqL K (upd H D o) a xs := by
  rcases h with (h | ⟨o', h⟩) | h
  · exact .inl (.inl (same_upd n _ _ h))
  · exact .inl (.inr ⟨o', same_upd n _ _ h⟩)
  · exact .inr h
theorem sq_same {K : PySem.W.Frag} {a : Addr} {xs : List V} {H H' : Hp} (h : SqL K H a xs) (s : Same H H') : SqL K H' a xs := by
  rcases h with (h | ⟨o', h⟩) | h
  · exact .inl (.inl (s _ _ h))
  · exact .inl (.inr ⟨o', s _ _ h⟩)
  · exact .inr h
/-- what a statement's ends have in common -/
theorem join {t : TS} {D : Ends} {σ : L2.St} {H : Hp} (R : L2.St → Hp → Prop) (h : ∀ N : L2.St → Hp → Prop, (∀ σ' H', R σ' H' → N σ' H') → t { D with nx := N } σ H) (k : ∀ σ' H', R σ' H' → D.nx σ' H') : t D σ H := h D.nx k
/-- an if whose test comes out false -/
theorem if_no {tc : TT} {t u : TS} {D : Ends} {σ : L2.St} {H : Hp} (R : Hp → Prop) (hc : ∀ Q : Bool → Hp → Prop, (∀ H1, R H1 → Q false H1) → tc σ H Q) (k : ∀ H1, R H1 → u D σ H1) : tIfS tc t u D σ H :=
  hc _ fun H1 r => iteF (k H1 r)
theorem next_to {D : Ends} {σ : L2.St} {H : Hp} (h : D.nx σ H) : tNext D σ H := h
theorem seq_to {t u : TS} {D : Ends} {σ : L2.St} {H : Hp} (h : t { D with nx := u D } σ H) : tSeq t u D σ H := h
theorem cut1 (xs : List V) : cutV xs (some 1) none = xs.drop 1 := by
  unfold cutV
  have e1 : HT.sIx xs.length 0 (some 1) = min 1 xs.length := HT.sIx_nat xs.length 0 1
  rw [e1, HT.sIx_none]
  by_cases h : 1 ≤ xs.length
  · rw [Nat.min_eq_left h, List.take_of_length_le (by rw [List.length_drop]; exact Nat.le_refl _)]
  · rw [Nat.min_eq_right (by omega), List.drop_of_length_le (Nat.le_refl _), List.drop_of_length_le (by omega)]
    simp
end L3
/-! How often a letter stands in a text. -/
namespace L3
open PySem PySem.Spec PyProof.Rows L2
theorem occ_run (x : Str) (c lim : Nat) (hlim : x.length < lim) : ∀ (n k : Nat) (acc : Array Nat) (f : Nat), k + n = x.length + 1 → f ≤ k → acc.size ≤ k →
    (forIn (List.range' k n) (acc, f) (StrLaws.occBody x ⟨#[c]⟩ x.length lim)).run.fst.size = acc.size + (x.cps.toList.drop k).count c
  | 0, k, acc, f, hk, hf, ha => by
    have e : x.cps.toList.drop k = [] := List.drop_of_length_le (by rw [Array.length_toList]; show x.length ≤ k; omega)
    rw [e]
    rfl
  | n + 1, k, acc, f, hk, hf, ha => by
    have hl : (⟨#[c]⟩ : Str).length = 1 := rfl
    rw [List.range'_succ, List.forIn_cons]
    by_cases hc : x.cps.toList[k]? = some c
    · have h1 := (StrLaws.subAt_one x c k).mpr hc
      have hlt : k < x.cps.toList.length := (List.getElem?_eq_some_iff.mp hc).1
      have hb : StrLaws.occBody x ⟨#[c]⟩ x.length lim k (acc, f) = pure (ForInStep.yield (acc.push k, k + 1)) := by
        unfold StrLaws.occBody
        rw [if_pos ⟨⟨⟨by show acc.size < lim; omega, hf⟩, h1.1⟩, h1.2⟩]
        rfl
      rw [hb]
      have ih := occ_run x c lim hlim n (k + 1) (acc.push k) (k + 1) (by omega) (Nat.le_refl _) (by rw [Array.size_push]; omega)
      have e : x.cps.toList.drop k = c :: x.cps.toList.drop (k + 1) := by
        rw [List.drop_eq_getElem_cons hlt]
        rw [List.getElem?_eq_getElem hlt] at hc
        rw [Option.some.inj hc]
      rw [e, List.count_cons_self]
      show (forIn (List.range' (k + 1) n) (acc.push k, k + 1) (StrLaws.occBody x ⟨#[c]⟩ x.length lim)).run.fst.size = _
      rw [ih, Array.size_push]
      omega
    · have hb : StrLaws.occBody x ⟨#[c]⟩ x.length lim k (acc, f) = pure (ForInStep.yield (acc, f)) := by
        unfold StrLaws.occBody
        rw [if_neg (fun z => hc ((StrLaws.subAt_one x c k).mp ⟨z.1.2, z.2⟩))]
      rw [hb]
      have ih := occ_run x c lim hlim n (k + 1) acc f (by omega) (by omega) (by omega)
      show (forIn (List.range' (k + 1) n) (acc, f) (StrLaws.occBody x ⟨#[c]⟩ x.length lim)).run.fst.size = _
      rw [ih]
      congr 1
      by_cases hlt : k < x.cps.toList.length
      · rw [List.drop_eq_getElem_cons hlt, List.count_cons_of_ne]
        intro z
        exact hc (by rw [List.getElem?_eq_getElem hlt, z])
      · rw [List.drop_of_length_le (by omega), List.drop_of_length_le (by omega)]
theorem count_one (l : List Nat) (c : Nat) : Txt.count (tS l) (tS [c]) = ((l.count c : Nat) : Int) := by
  unfold Txt.count
  rw [StrLaws.occ_eq]
  have h := occ_run (tS l) c ((tS l).length + 1) (by omega) ((tS l).length + 1 - 0) 0 #[] 0 (by omega) (Nat.le_refl _) (Nat.le_refl _)
  rw [Array.length_toList]
  have e : (tS l).cps.toList.drop 0 = l := by simp [tS]
  rw [e] at h
  have h2 : (forIn (List.range' 0 ((tS l).length + 1 - 0)) (#[], 0) (StrLaws.occBody (tS l) (tS [c]) (tS l).length ((tS l).length + 1))).run.fst.size = l.count c := by
    rw [show (tS [c]) = (⟨#[c]⟩ : Str) from rfl, h]
    simp
  rw [h2]
/-- a comprehension: R of the heap, A of the list so far; R asked of heaps that hold the list -/
theorem lc_gen2 {J : It} {n : Nat} {G : Hp → Prop} {Y : Nat → Hp → V → Hp → Prop} (w : Walk J n G Y) {g : TG} {tt : TT} {te : TE} {vs : List Nat} {σ : L2.St} {H1 : Hp} {D : Addr} {Qd : Hp → Prop} (R : Hp → Prop) (A : Nat → List V → Prop) (hz : n ≤ sizeLine) (hA : ∀ i acc, A i acc → acc.length ≤ i)
    (h0 : A 0 []) (r0 : R (upd H1 D (.lst []))) (r1 : ∀ H acc acc', H D = some (.lst acc) → R H → R (upd H D (.lst acc'))) (hG : ∀ H, R H → G H)
    (hs : ∀ i x H H' acc (C : VK) (N : Hp → Prop), i < n → R H → H D = some (.lst acc) → A i acc → Y i H x H' → (∀ v H4, R H4 → H4 D = some (.lst acc) → A (i + 1) (acc ++ [v]) → C v H4) → (∀ H3, R H3 → H3 D = some (.lst acc) → A (i + 1) acc → N H3) →
      g x (wipe σ vs) H' fun σ2 H2 => wipe σ2 vs = wipe σ vs ∧ tt σ2 H2 fun b H3 => if b = true then te σ2 H3 C else N H3)
    (hd : ∀ H xs, R H → H D = some (.lst xs) → A n xs → Qd H) :
    ∃ W : Nat → Nat → Hp → Prop, (∃ m, W 0 m (upd H1 D (.lst []))) ∧ ∀ i m H, W i m H →
      (J.stop i H ∧ Qd H) ∨ (J.go i H ∧ ∃ Nx : Hp → Prop, (∀ H', Nx H' → ∃ m', m' < m ∧ W (i + 1) m' H') ∧ ∀ x H', J.yld i H x H' → g x (wipe σ vs) H' fun σ2 H2 => wipe σ2 vs = wipe σ vs ∧ tt σ2 H2 fun b H3 =>
        if b = true then te σ2 H3 fun y H4 => ∃ acc, H4 D = some (.lst acc) ∧ acc.length < sizeLine ∧ Nx (upd H4 D (.lst (acc ++ [y]))) else Nx H3) := by
  refine lc_it w (fun i H => R H ∧ ∃ acc, H D = some (.lst acc) ∧ A i acc) ⟨r0, [], upd_same, h0⟩ (fun i H _ p => hG H p.1) (fun i x H H' hi p y => ?_) fun H p => ?_
  · obtain ⟨rH, acc, hD, ha⟩ := p
    refine hs i x H H' acc _ _ hi rH hD ha y (fun v H4 r4 d4 a4 => ⟨acc, d4, ?_, r1 _ _ _ d4 r4, _, upd_same, a4⟩) (fun H3 r3 d3 a3 => ⟨r3, acc, d3, a3⟩)
    have := hA i acc ha
    omega
  · obtain ⟨rH, acc, hD, ha⟩ := p
    exact hd H acc rH hD ha
section
variable {X : Cx}
theorem mt_countT : MtR X "str.count" (fun x xs H Q => ∃ (l : List Nat) (c : Nat), x = tx l ∧ xs = [tx [c]] ∧ Q (.int ((l.count c : Nat) : Int)) H) := by
  intro pins s σ H x xs v us Q I rx r h
  obtain ⟨l, c, rfl, rfl, q⟩ := h
  refine mt_count pins s σ H _ _ v us Q I rx r ⟨_, _, rfl, rfl, ?_⟩
  rw [count_one]
  exact q
end
end L3
/-! Sets of texts. -/
namespace L3
open PySem PySem.Spec PyProof.Rows L2
/-- an element that is a text, with the hash that the world gives it -/
def GoodT (w : World) (e : Int × Value) : Prop := ∃ l tk, e.2 = Value.str (tS l) tk ∧ e.1 = hashStr w (tS l)
def txtOf (e : Int × Value) : List Nat := match e.2 with | .str x _ => x.cps.toList | _ => []
theorem txt_tS (l : List Nat) (h : Int) (tk : Tok) : txtOf (h, Value.str (tS l) tk) = l := by simp [txtOf, tS]
theorem tS_txt (x : Str) : tS x.cps.toList = x := by cases x; simp [tS]
/-- the object at a is a set of the texts L -/
def SetT (w : World) (h : Heap) (a : Addr) (L : List (List Nat)) : Prop :=
  ∃ o es ep t, h.get? a = some o ∧ o.ExactSet ∧ o.data = .set es ep t ∧ (∀ e ∈ es.toList, GoodT w e) ∧ (es.toList.map txtOf).Perm L ∧ L.Nodup ∧
    es.size < scanBound ∧ t.fits es.size = true ∧ Ris t.place.toList ∧ (w.params.followText "set-order" = true ∨ t.led = true)
section
variable {P : Program} {w : World} {A : Around} {E : Value → Shared → Prop} {s : Shared} {a : Addr} {L : List (List Nat)}
theorem SetT.at {h h' : Heap} (R : SetT w h a L) (k : ∀ o, h.get? a = some o → h'.get? a = some o) : SetT w h' a L := by
  obtain ⟨o, es, ep, t, ho, r⟩ := R
  exact ⟨o, es, ep, t, k o ho, r⟩
theorem goodT_elems {l : List (Int × Value)} (g : ∀ e ∈ l, GoodT w e) : ElemsOf (PySem.strKind P w) l := fun e he => by
  obtain ⟨x, tk, h1, h2⟩ := g e he
  exact ⟨⟨tS x, by rw [h1]; exact strKind_is P w _ _, h2⟩, by rw [h1]; rfl⟩
theorem goodT_is {e : Int × Value} (g : GoodT w e) (l : List Nat) : (PySem.strKind P w).is (tS l) e.2 = true ↔ txtOf e = l := by
  obtain ⟨x, tk, h1, h2⟩ := g
  have e1 : txtOf e = x := by unfold txtOf; rw [h1]
  rw [e1, h1]
  show Value.isStrOf (tS l) (Value.str (tS x) tk) = true ↔ _
  constructor
  · intro h
    obtain ⟨u, hu⟩ := Value.isStrOf_shape h
    injection hu with hx
    have := congrArg (fun z : Str => z.cps.toList) hx
    simpa [tS] using this
  · rintro rfl
    exact strKind_is P w (tS _) tk
theorem setT_tail {g : Bool → Sem Unit} (hg : ∀ (b : Bool) (s₁ : Shared) (Q' : Unit → Shared → Prop), Q' () s₁ → wpAny (model P w) A (g b) Q' E s₁)
    {o : Obj} {es : Array (Int × Value)} {ep : Nat} {t : SetTable} (ho : s.heap.get? a = some o) (hex : o.ExactSet) (hd : o.data = .set es ep t)
    {es1 : Array (Int × Value)} {t2 : SetTable} {L' : List (List Nat)} (g1 : ∀ e ∈ es1.toList, GoodT w e) (p1 : (es1.toList.map txtOf).Perm L') (nd : L'.Nodup)
    (hb1 : es1.size < scanBound) (hf2 : t2.fits es1.size = true) (hr : Ris t2.place.toList) (hl : w.params.followText "set-order" = true ∨ t2.led = true) {wasDummy : Bool} {R : Option Bool → Shared → Prop}
    (hR : ∀ h', Heap.SameBut a s.heap h' → SetT w h' a L' → R (some true) { s with heap := h' }) :
    wpAny (model P w) A (do
        storeSet a es1 t2
        if (!wasDummy && t2.tooFull) = true then do
            g (relayAll t2 es1 (SetTable.grown es1.size)).2.2
            storeSet a (relayAll t2 es1 (SetTable.grown es1.size)).1 (relayAll t2 es1 (SetTable.grown es1.size)).2.1
            pure (some true)
          else pure (some true)) R E s := by
  refine wpAny_bind (wpAny_storeSet_of ho hd ?_ (fits_of_scanBound hb1))
  have q1 := store_at (es' := es1) (t' := t2) ho hd
  have sb := Heap.SameBut.update s.heap a (Obj.putSet es1 t2)
  split
  · have pm := relayAll_perm t2 es1 (SetTable.grown es1.size)
    have f3 := relayAll_fits t2 es1 (SetTable.grown es1.size)
    have r3 := relayAll_ris t2 es1 (SetTable.grown es1.size)
    have l3 := relayAll_led t2 es1 (SetTable.grown es1.size)
    generalize relayAll t2 es1 (SetTable.grown es1.size) = Z at pm f3 r3 l3 ⊢
    obtain ⟨es2, t3, gv⟩ := Z
    dsimp only at pm f3 r3 l3 ⊢
    have sz : es2.size = es1.size := by rw [← Array.length_toList, pm.length_eq, Array.length_toList]
    refine wpAny_bind (hg _ _ _ ?_)
    refine wpAny_bind (wpAny_storeSet_of q1 rfl ?_ (fits_of_scanBound (by rw [sz]; exact hb1)))
    refine wpAny_pure (hR _ (sb.trans (Heap.SameBut.update _ a _)) ⟨_, es2, _, t3, store_at (es' := es2) (t' := t3) q1 rfl, hex, rfl, fun e he => g1 e (pm.mem_iff.mp he), (pm.map txtOf).trans p1, nd, by rw [sz]; exact hb1, f3, r3, ?_⟩)
    rcases hl with z | z
    · exact .inl z
    · exact .inr (by rw [l3]; exact z)
  · exact wpAny_pure (hR _ sb ⟨_, es1, _, t2, q1, hex, rfl, g1, p1, nd, hb1, hf2, hr, hl⟩)
theorem setT_add {l : List Nat} {tk : Tok} {Q : Bool → Shared → Prop} (R : SetT w s.heap a L) (room : L.length + 1 < scanBound)
    (hQ : ∀ b h', Heap.SameBut a s.heap h' → SetT w h' a (if l ∈ L then L else L ++ [l]) → Q b { s with heap := h' }) :
    wpAny (model P w) A (setAddHashed a (.str (tS l) tk) ((PySem.strKind P w).hash (tS l))) Q E s := by
  obtain ⟨o, es, ep, t, ho, hex, hd, g, pL, nd, hb, hf, hr, hl⟩ := R
  have hkey : (PySem.strKind P w).is (tS l) (.str (tS l) tk) = true := strKind_is P w _ tk
  have hel : ElemsOf (PySem.strKind P w) es.toList := goodT_elems g
  have hn : es.size = L.length := by rw [← Array.length_toList, ← pL.length_eq, List.length_map]
  unfold setAddHashed setAddHashedIn
  refine wpAny_holding (wpAny_bind (wpAny_setState_of ho hd hf ?_))
  dsimp only
  rw [byScan_of (knd := PySem.strKind P w) rfl hb hel]
  simp only [↓reduceIte]
  unfold setAddByScan
  refine wpAny_bind ?_
  refine wpAny_bind (wpAny_rule ?_)
  refine wpAny_bind (wpAny_setScan_of hkey ho hd hf hel ?_)
  cases hfi : List.findIdx? (fun e => (PySem.strKind P w).is (tS l) e.2) es.toList with
  | some j =>
    dsimp only
    obtain ⟨hj, pj, _⟩ := List.findIdx?_eq_some_iff_getElem.mp hfi
    have hm : l ∈ L := pL.mem_iff.mp (List.mem_map.mpr ⟨_, List.getElem_mem hj, (goodT_is (P := P) (g _ (List.getElem_mem hj)) l).mp pj⟩)
    refine wpAny_pure (wpAny_pure ?_)
    have q := hQ false s.heap (Heap.SameBut.refl a s.heap) (by rw [if_pos hm]; exact ⟨o, es, ep, t, ho, hex, hd, g, pL, nd, hb, hf, hr, hl⟩)
    exact q
  | none =>
    dsimp only
    have hm : l ∉ L := fun z => by
      obtain ⟨e, he, q⟩ := List.mem_map.mp (pL.mem_iff.mpr z)
      have c := List.findIdx?_eq_none_iff.mp hfi e he
      rw [(goodT_is (P := P) (g e he) l).mpr q] at c
      cases c
    have hgw : ∀ (b : Bool) {s₁ : Shared} {Q' : Unit → Shared → Prop}, Q' () s₁ → wpAny (model P w) A (match b with | true => rule "set.scan.the-table-gave-way" | false => pure ()) Q' E s₁ :=
      fun b s₁ Q' q => by cases b <;> first | exact wpAny_pure q | exact wpAny_rule q
    have pm := layNew_perm t es ((PySem.strKind P w).hash (tS l)) (.str (tS l) tk)
    have hf1 := layNew_fits t es ((PySem.strKind P w).hash (tS l)) (.str (tS l) tk)
    have hr1 := layNew_ris t es ((PySem.strKind P w).hash (tS l)) (.str (tS l) tk) hr
    have hl1 := layNew_led t es ((PySem.strKind P w).hash (tS l)) (.str (tS l) tk)
    generalize layNew t es ((PySem.strKind P w).hash (tS l)) (.str (tS l) tk) = Z at pm hf1 hr1 hl1 ⊢
    obtain ⟨es1, t1, wd, gv⟩ := Z
    dsimp only at pm hf1 hr1 hl1 ⊢
    rw [Array.toList_push] at pm
    have g1 : ∀ e ∈ es1.toList, GoodT w e := fun e he => by
      rcases List.mem_append.mp (pm.mem_iff.mp he) with z | z
      · exact g e z
      · rw [List.mem_singleton.mp z]; exact ⟨l, tk, rfl, rfl⟩
    have p1 : (es1.toList.map txtOf).Perm (L ++ [l]) := by
      refine (pm.map txtOf).trans ?_
      rw [List.map_append, List.map_cons, List.map_nil, txt_tS]
      exact pL.append_right _
    have nd1 : (L ++ [l]).Nodup := by
      rw [List.nodup_append]
      refine ⟨nd, by simp, fun x hx y hy => ?_⟩
      rw [List.mem_singleton.mp hy]
      exact fun z => hm (z ▸ hx)
    have hsz : es1.size = L.length + 1 := by rw [← Array.length_toList, pm.length_eq, List.length_append, Array.length_toList, hn]; rfl
    have hb1 : es1.size < scanBound := by rw [hsz]; exact room
    have hled : w.params.followText "set-order" = true ∨ t1.led = true := by
      rcases hl with z | z
      · exact .inl z
      · exact .inr (by rw [hl1]; exact z)
    have fin : ∀ h', Heap.SameBut a s.heap h' → SetT w h' a (L ++ [l]) → Q true { s with heap := h' } := fun h' sb r => hQ true h' sb (by rw [if_neg hm]; exact r)
    refine wpAny_bind (hgw _ ?_)
    split
    · refine wpAny_bind ?_
      rw [hashByValue_scannable 8 rfl]
      refine wpAny_pure ?_
      refine setT_tail ?_ ho hex hd g1 p1 nd1 hb1 ?_ ?_ ?_ ?_
      · intro b s₁ Q' q; cases b <;> first | exact wpAny_pure q | exact wpAny_rule q
      · first | (split <;> first | exact hf1 | exact SetTable.fits_plain_off hf1) | exact hf1
      · first | (split <;> exact hr1) | exact hr1
      · first | (split <;> exact hled) | exact hled
      · intro h' sb r; dsimp only; exact wpAny_pure (fin h' sb r)
    · refine wpAny_bind (wpAny_pure ?_)
      simp only [↓reduceIte]
      refine setT_tail ?_ ho hex hd g1 p1 nd1 hb1 hf1 hr1 hled ?_
      · intro b s₁ Q' q; cases b <;> first | exact wpAny_pure q | exact wpAny_rule q
      · intro h' sb r; dsimp only; exact wpAny_pure (fin h' sb r)
end
end L3
/-! set(text), sorted(set(text)). -/
namespace L3
open PySem PySem.Spec PyProof.Rows L2
/-- the first ones, each once -/
def ded (val : Nat → List Nat) : Nat → List (List Nat)
  | 0 => []
  | i + 1 => if val i ∈ ded val i then ded val i else ded val i ++ [val i]
theorem ded_len (val : Nat → List Nat) : ∀ i, (ded val i).length ≤ i
  | 0 => Nat.le_refl _
  | i + 1 => by
    have := ded_len val i
    unfold ded
    split
    · omega
    · rw [List.length_append]
      exact Nat.succ_le_succ this
theorem ded_mem (val : Nat → List Nat) (l : List Nat) : ∀ i, l ∈ ded val i ↔ ∃ j, j < i ∧ val j = l
  | 0 => by simp [ded]
  | i + 1 => by
    have ih := ded_mem val l i
    unfold ded
    split
    · rename_i h
      rw [ih]
      refine ⟨fun ⟨j, h1, h2⟩ => ⟨j, by omega, h2⟩, fun ⟨j, h1, h2⟩ => ?_⟩
      by_cases e : j = i
      · subst e
        rw [h2] at h
        exact ih.mp h
      · exact ⟨j, by omega, h2⟩
    · rw [List.mem_append, ih, List.mem_singleton]
      constructor
      · rintro (⟨j, h1, h2⟩ | h)
        · exact ⟨j, by omega, h2⟩
        · exact ⟨i, by omega, h.symm⟩
      · rintro ⟨j, h1, h2⟩
        by_cases e : j = i
        · exact .inr (by rw [← h2, e])
        · exact .inl ⟨j, by omega, h2⟩
section
variable {prog : Program} {w : World} {A : Around} {R : Result → Shared → Prop} {I : Addr} {fp wr : List Addr} {G : Array GenState → Array GenState → Prop} {n : Nat} {P : Nat → Value → Prop} {St : Nat → Shared → Prop}
theorem set_loopT (W : WalksS prog w A.in1 I fp wr G n P St) (S : Addr) (hSf : S ∉ fp) (val : Nat → List Nat) (hval : ∀ i v, P i v → ∃ t, v = Value.str (tS (val i)) t) (hb : n + 1 < scanBound) :
    ∀ (k i : Nat) (s : Shared), n - i = k → i ≤ n → St i s → SetT w s.heap S (ded val i) →
      (∀ s', Moved (S :: wr) G s s' → SetT w s'.heap S (ded val n) → R (.ok (.ret .none)) s') →
      codeAny (model prog w) A (.builtin "set.update.loop" ⟨[.ref S, .ref I], []⟩) R s := by
  have hSw : S ∉ wr := fun h => hSf (W.sub _ h)
  have sub : ∀ b ∈ wr, b ∈ S :: wr := fun b hb => List.mem_cons_of_mem _ hb
  intro k
  induction k with
  | zero =>
    intro i s hk hi hst hS hR
    obtain rfl : i = n := by omega
    refine codeAny_builtin PyProof.Rows.F.entry_set_update_loop ?_
    rw [Around.under_plainId PyProof.Rows.F.plain_set_update_loop _]
    show wpAny _ A.in1 (pyNext (.ref I) >>= _) _ _ s
    refine wpAny_bind (W.done s _ _ hst fun s' hm => ?_)
    show wpAny _ A.in1 (ret Value.none) _ _ s'
    exact wpAny_pure (hR s' (hm.mono sub) (hS.at fun o ho => hm.heap S _ hSw ho))
  | succ k ih =>
    intro i s hk hi hst hS hR
    have hlt : i < n := by omega
    refine codeAny_builtin PyProof.Rows.F.entry_set_update_loop ?_
    rw [Around.under_plainId PyProof.Rows.F.plain_set_update_loop _]
    show wpAny _ A.in1 (pyNext (.ref I) >>= _) _ _ s
    refine wpAny_bind (W.item i s _ _ hlt hst fun v s' hP hst' hm => ?_)
    obtain ⟨t, rfl⟩ := hval i v hP
    have hS' : SetT w s'.heap S (ded val i) := hS.at fun o ho => hm.heap S _ hSw ho
    show wpAny _ A.in1 (holding [Value.str (tS (val i)) t] (setAdd S (.str (tS (val i)) t)) >>= _) _ _ s'
    refine wpAny_bind (wpAny_holding ?_)
    unfold setAdd
    refine wpAny_holding ?_
    refine wpAny_bind ((PySem.strKind prog w).pyHash (k := tS (val i)) (strKind_is prog w _ t) ?_)
    have room : (ded val i).length + 1 < scanBound := by have := ded_len val i; omega
    refine setT_add (P := prog) (s := { s' with toks := s'.toks + 1 }) hS' room fun b h' sb hS2 => ?_
    refine wpAny_pure ⟨plainId_quiet PyProof.Rows.F.plain_set_update_loop _, ih (i + 1) _ (by omega) hlt (W.frame _ s' _ _ hst' (Nat.le_succ _) fun b hb o e => ?_) hS2 fun s'' hm'' hS'' => ?_⟩
    · rw [sb.2 b (fun h : b = S => hSf (by rw [← h]; exact hb))]; exact e
    · refine hR s'' (Moved.trans W.gtrans ((hm.mono sub).then_heap (Nat.le_succ _) fun b o hb e => ?_) hm'') hS''
      rw [sb.2 b (fun h : b = S => hb (by rw [h]; exact List.mem_cons_self))]; exact e
end
section
variable {P : Program} {w : World} {A : Around} {E : Value → Shared → Prop} {s : Shared}
theorem code_set_led1 (a : Value) {Q₁ : Value → Shared → Prop}
    (h : Q₁ (.ref s.heap.objs.size) { s with heap := s.heap.push { cls := .type "set", dict := none, data := .set #[] 0 (.fresh 0 0 (!w.params.followText "set-order")) } }) :
    codeAny (model P w) A (.call (.builtin "set.__new__") ⟨[.type "set", a], []⟩) (wants Q₁ E) s := by
  refine codeAny_of_tree ?_
  show wpAny _ A.in1 (do checkBuiltinCall "set.__new__" ⟨[.type "set", a], []⟩; again (.builtin "set.__new__" ⟨[.type "set", a], []⟩)) _ _ s
  refine wpAny_bind (wpAny_of_eq (PySem.F.newCall_set_1 a) (wpAny_pure ⟨plainId_quiet PySem.F.plain_set_new _, codeAny_builtin PySem.F.entry_set_new ?_⟩))
  rw [Around.under_plainId PySem.F.plain_set_new _]
  unfold Builtin.«set.__new__» Builtin.Frozenset.newClass
  have hsub := sub_set_self
  obtain ⟨hp, g, d, tk, os⟩ := s
  dsimp only
  wp_walk
  refine wpAny_askSetting (wpAny_pure ?_)
  dsimp only
  simp only [newObj]
  refine wpAny_bind (wpAny_alloc (wpAny_pure ?_))
  exact wpAny_pure h
theorem setT_fresh {h : Heap} (w : World) : SetT w (h.push { cls := .type "set", dict := none, data := .set #[] 0 (.fresh 0 0 (!w.params.followText "set-order")) }) h.objs.size [] := by
  refine ⟨_, #[], 0, _, Heap.get?_push_size _ rfl, ⟨rfl, rfl, rfl⟩, rfl, (fun e he => by simp at he), .refl _, List.nodup_nil, by decide, rfl, List.Pairwise.nil, ?_⟩
  show _ ∨ (!w.params.followText "set-order") = true
  cases w.params.followText "set-order"
  · exact .inr rfl
  · exact .inl rfl
end
end L3
/-! set(text). -/
namespace L3
open PySem PySem.Spec PyProof.Rows L2
theorem sub_str_set : isSubtype (.type "str") (.type "set") = pure false := by rw [isSubtype_type]; kernel_rfl
theorem sub_str_frozenset : isSubtype (.type "str") (.type "frozenset") = pure false := by rw [isSubtype_type]; kernel_rfl
section
variable {P : Program} {w : World} {A : Around} {E : Value → Shared → Prop} {s : Shared}
set_option maxHeartbeats 8000000 in
/-- set(text) -/
theorem call_set_text {x : List Nat} {tx0 : Tok} {Q : Value → Shared → Prop} (hh : A.handled = none) (hb : x.length + 1 < scanBound)
    (h : ∀ (h' : Heap) (tk : Nat), SetT w h' s.heap.objs.size (ded (fun i => [x.getD i 0]) x.length) →
      (∀ b o, b < s.heap.objs.size → s.heap.get? b = some o → h'.get? b = some o) → Q (.ref s.heap.objs.size) { s with heap := h', toks := tk }) :
    wpAny (model P w) A (call (.type "set") [.str (tS x) tx0]) Q E s := by
  obtain ⟨c, tl, hmro⟩ := PySem.F.called_set.mro
  have hmade := PySem.F.called_set.made
  have hsub := PySem.F.called_set.sub
  refine wpAny_call (codeAny_of_tree ?_)
  show wpAny _ _ (callAny (.type "set") _) _ _ _
  refine wpAny_pure ⟨Code.quiet_builtin _ (by decide +kernel), codeAny_builtin PySem.F.entry_type_call ?_⟩
  rw [Around.under_plain (weight_type_call_type "set" [.str (tS x) tx0] []) rfl]
  have h1 := PySem.F.called_set.notType
  have h2 := PySem.F.called_set.canCreate
  have hct := PySem.F.typeCall_set_1 (.str (tS x) tx0)
  repeat (any_goals (first | assumption | wp_step))
  refine codeAny_mono (code_set_led1 (.str (tS x) tx0) (E := E) (Q₁ := fun obj s₁ => obj = .ref s.heap.objs.size ∧ s₁ = { s with heap := s.heap.push { cls := .type "set", dict := none, data := .set #[] 0 (.fresh 0 0 (!w.params.followText "set-order")) } }) ⟨rfl, rfl⟩) fun r s₁ hr => ?_
  cases r with
  | error e => exact hr
  | ok fl =>
    cases fl with
    | ret obj =>
      obtain ⟨rfl, rfl⟩ := hr
      have hS : (s.heap.push { cls := .type "set", dict := none, data := .set #[] 0 (.fresh 0 0 (!w.params.followText "set-order")) }).get? s.heap.objs.size = some { cls := .type "set", dict := none, data := .set #[] 0 (.fresh 0 0 (!w.params.followText "set-order")) } := Heap.get?_push_size _ rfl
      have hT : Shared.TypeIs { s with heap := s.heap.push { cls := .type "set", dict := none, data := .set #[] 0 (.fresh 0 0 (!w.params.followText "set-order")) } } (.ref s.heap.objs.size) "set" := ⟨_, hS, rfl⟩
      have hli := PySem.F.called_set.init.lookup
      have hbi := PySem.F.called_set.init.bind (.ref s.heap.objs.size)
      repeat (any_goals (first | assumption | wp_step))
      refine codeAny_mono (codeAny_call_builtin (R := wants (fun r s₂ => r = .none ∧ ∃ h' tk, s₂ = { s with heap := h', toks := tk } ∧ SetT w h' s.heap.objs.size (ded (fun i => [x.getD i 0]) x.length) ∧
          (∀ b o, b < s.heap.objs.size → s.heap.get? b = some o → h'.get? b = some o)) E) PySem.F.called_set.init.plain PySem.F.entry_set_init (PySem.check_set_init_1 hT ?_)) fun r₂ s₂ hr₂ => ?_
      · have hsls := sub_str_set
        have hslf := sub_str_frozenset
        have hne : (Value.type "str" == Value.type "dict") = false := by decide
        unfold Builtin.«set.__init__» noKeywords Builtin.Frozenset.updateFrom
        generalize hPI : pyIter = PI
        wp_walk
        subst hPI
        refine wpAny_pyIter_str fun oi St hW hst => ?_
        refine wpAny_bind (wpAny_runValue ?_)
        have hh3 : A.in1.in1.in1.handled = none := by simp [hh]
        have hsz : (s.heap.push { cls := .type "set", dict := none, data := .set #[] 0 (.fresh 0 0 (!w.params.followText "set-order")) }).objs.size = s.heap.objs.size + 1 := Heap.size_push _ _
        have hSf : s.heap.objs.size ∉ [(s.heap.push { cls := .type "set", dict := none, data := .set #[] 0 (.fresh 0 0 (!w.params.followText "set-order")) }).objs.size] := by
          rw [hsz]
          simp
        have hn : (tS x).cps.size = x.length := tS_len x
        have hval : ∀ (i : Nat) (v : Value), SignAt (tS x) i v → ∃ t, v = Value.str (tS [x.getD i 0]) t := fun i v hv => by
          obtain ⟨c, u, hc, rfl⟩ := hv
          have hc' : x[i]? = some c := by simpa [tS] using hc
          refine ⟨u, ?_⟩
          rw [List.getD_eq_getElem?_getD, hc']
          rfl
        refine set_loopT ((hW _ hh3).toS) s.heap.objs.size hSf (fun i => [x.getD i 0]) hval (by rw [hn]; exact hb) _ 0 _ rfl (Nat.zero_le _) hst ((setT_fresh w).at fun o ho => Heap.get?_push_of_some _ ho) fun s' hm hS' => ?_
        obtain ⟨h', g', d', tk', os'⟩ := s'
        have eg : g' = s.gens := hm.gens
        have ed : d' = s.drawn := hm.drawn
        have eo : os' = s.os := hm.os
        subst eg ed eo
        rw [hn] at hS'
        show wpAny _ _ _ _ _ _
        refine wpAny_pure ?_
        show wpAny _ _ (ret Value.none) _ _ _
        refine wpAny_pure ⟨rfl, h', tk', rfl, hS', fun b o hb e => ?_⟩
        refine hm.heap b o (fun z => ?_) (Heap.get?_push_of_some _ (Heap.get?_push_of_some _ e))
        simp only [List.mem_cons, List.not_mem_nil, or_false] at z
        rcases z with z | z
        · exact absurd z (Nat.ne_of_lt hb)
        · rw [hsz] at z
          exact absurd z (Nat.ne_of_lt (Nat.lt_succ_of_lt hb))
      · cases r₂ with
        | error e => exact hr₂
        | ok fl₂ =>
          cases fl₂ with
          | ret r =>
            obtain ⟨rfl, h', tk, rfl, hS', hk'⟩ := hr₂
            repeat (any_goals (first | assumption | wp_step))
            exact h _ _ hS' hk'
          | _ => exact hr₂.elim
    | _ => exact hr.elim
end
end L3
/-! sorted of a set of texts. -/
namespace L3
open PySem PySem.Spec PyProof.Rows L2
def sVal (v : Value) : Str := match v with | .str x _ => x | _ => Str.empty
theorem strs_of : ∀ (l : List Value), (∀ v ∈ l, ∃ k tk, v = Value.str k tk) → StrsAre l (l.map sVal)
  | [], _ => .nil
  | v :: l, h => by
    obtain ⟨k, tk, rfl⟩ := h v List.mem_cons_self
    exact .cons k tk (strs_of l fun u hu => h u (List.mem_cons_of_mem _ hu))
section
variable {P : Program} {w : World} {A : Around} {E : Value → Shared → Prop} {s : Shared} {a : Addr} {L : List (List Nat)}
theorem sorted_setX {Q : Value → Shared → Prop} (R : SetT w s.heap a L) (hh : A.handled = none)
    (hQ : ∀ s' p (out : Array Value) (c : Nat) (ss : List Str), (∀ b o, s.heap.get? b = some o → s'.heap.get? b = some o) → s'.gens = s.gens → s'.os = s.os → s.heap.objs.size ≤ p →
      s'.heap.get? p = some (seqObj "list" out c) → StrsAre out.toList ss → ss.Perm (L.map tS) → sortedS ss = true → Q (.ref p) s') :
    wpAny (model P w) A (call (.builtin "sorted") [.ref a]) Q E s := by
  obtain ⟨o, es, ep, t, ho, hex, hd, g, pL, nd, hb, hf, hr, hl⟩ := R
  refine Calls.call_function_entry kind_sorted plain_sorted entry_sorted (args_sorted1 _) ?_
  unfold Builtin.«sorted»
  refine wpAny_bind (m := checkCount "sorted" 1 1 _) (wpAny_pure ?_)
  refine wpAny_bind (collect_set (A := A.in1) hh ⟨o, ho, hex.1, hd⟩ hf hb hr hl fun s1 vs k1 hz g1 o1 pm => ?_)
  have hvl : vs.length = es.size := by rw [pm.length_eq, List.length_map, Array.length_toList]
  have hS : StrsAre vs (vs.map sVal) := strs_of vs fun v hv => by
    obtain ⟨e, he, q⟩ := List.mem_map.mp (pm.mem_iff.mp hv)
    obtain ⟨x, tk, h1, _⟩ := g e he
    exact ⟨tS x, tk, by rw [← q]; exact h1⟩
  have pk : (vs.map sVal).Perm (L.map tS) := by
    refine (pm.map sVal).trans ?_
    rw [List.map_map]
    have e1 : es.toList.map (sVal ∘ fun x => x.2) = (es.toList.map txtOf).map tS := by
      rw [List.map_map]
      refine List.map_congr_left fun e he => ?_
      obtain ⟨x, tk, h1, _⟩ := g e he
      show sVal e.2 = tS (txtOf e)
      unfold txtOf
      rw [h1]
      show tS x = tS (tS x).cps.toList
      rw [tS_txt]
    rw [e1]
    exact pL.map tS
  have hL : vs.length ≤ sizeLine := by rw [hvl]; exact fits_of_scanBound hb
  refine wpAny_bind (wpAny_newList ?_ hL)
  have hoL : (s1.heap.push (seqObj "list" vs.toArray 0)).get? s1.heap.objs.size = some (seqObj "list" vs.toArray 0) := Heap.get?_push_size _ rfl
  refine wpAny_bind (wpAny_holding (wpAny_call_entry slot_list_sort ⟨_, hoL, rfl⟩ entry_list_sort (list_sort_treeKAny strKind_oneLt hoL hS.keysOf (fun v₁ v₂ rest e => keyKind_strs (by rw [← e]; exact hS)) hL fun st' hp hs => ⟨_, rfl, ?_⟩) (args_list_sort _)))
  obtain ⟨ss', a1, a2, a3⟩ := sorted_out_str hS hp hs
  obtain ⟨c, hc⟩ := sortedHeap_at (vs := vs) (out := (arrOf st').map (·.2)) hoL
  refine wpAny_pure ⟨_, rfl, hQ _ s1.heap.objs.size _ c ss' (fun b u e => ?_) g1 o1 hz hc a1 (a2.trans pk) a3⟩
  have q := k1 b u e
  have hlt := Heap.lt_size q
  show (sortedHeap (s1.heap.push (seqObj "list" vs.toArray 0)) s1.heap.objs.size vs _).get? b = some u
  rw [sortedHeap_old (Nat.ne_of_lt hlt) (by rw [size_push']; exact Nat.lt_succ_of_lt hlt)]
  exact Heap.get?_push_of_some _ q
end
end L3
/-! Sets of texts: the rules by values. -/
namespace L3
open PySem PySem.Spec PyProof.Rows L2
/-- the set of the texts L at a -/
def TSet (w : World) (a : Addr) (L : List (List Nat)) : HO := .ext fun h => SetT w h a L
/-- the letters of a text, each once -/
def lets (l : List Nat) : List (List Nat) := ded (fun i => [l.getD i 0]) l.length
theorem lets_mem {l x : List Nat} : x ∈ lets l ↔ ∃ c, c ∈ l ∧ x = [c] := by
  unfold lets
  rw [ded_mem]
  constructor
  · rintro ⟨j, hj, rfl⟩
    refine ⟨l.getD j 0, ?_, rfl⟩
    rw [List.getD_eq_getElem?_getD, List.getElem?_eq_getElem hj]
    exact List.getElem_mem hj
  · rintro ⟨c, hc, rfl⟩
    obtain ⟨j, hj, rfl⟩ := List.getElem_of_mem hc
    exact ⟨j, hj, by rw [List.getD_eq_getElem?_getD, List.getElem?_eq_getElem hj]; rfl⟩
theorem rising_pair : ∀ (ss : List Str) (p : Str), risingS p ss = true → (p :: ss).Pairwise fun a b => ¬ b.cps.toList < a.cps.toList
  | [], p, _ => by simp
  | x :: ss, p, h => by
    have h : (!ltCps x.cps.toList p.cps.toList && risingS x ss) = true := h
    rw [Bool.and_eq_true, Bool.not_eq_true', ltCps_eq, decide_eq_false_iff_not] at h
    have ih := rising_pair ss x h.2
    refine List.pairwise_cons.mpr ⟨fun y hy => ?_, ih⟩
    rcases List.mem_cons.mp hy with rfl | hy
    · exact h.1
    · have h2 := (List.pairwise_cons.mp ih).1 y hy
      exact List.not_lt.mpr (List.le_trans (List.not_lt.mp h.1) (List.not_lt.mp h2))
theorem sorted_pair {ss : List Str} (h : sortedS ss = true) : ss.Pairwise fun a b => ¬ b.cps.toList < a.cps.toList := by
  cases ss with
  | nil => exact List.Pairwise.nil
  | cons x r => exact rising_pair r x h
theorem vals_strsT : ∀ {vs : List Value} {ss : List Str}, StrsAre vs ss → Vals ((ss.map fun z => z.cps.toList).map tx) vs
  | _, _, .nil => .nil
  | _, _, .cons y t k => .cons ⟨t, by show Value.str y t = Value.str (tS y.cps.toList) t; rw [tS_txt]⟩ (vals_strsT k)
theorem up_strict {L : List (List Nat)} (h : L.Pairwise fun a b => ¬ b < a) (d : L.Nodup) : L.Pairwise (· < ·) := by
  induction L with
  | nil => exact List.Pairwise.nil
  | cons x l ih =>
    obtain ⟨h1, h2⟩ := List.pairwise_cons.mp h
    obtain ⟨d1, d2⟩ := List.nodup_cons.mp d
    refine List.pairwise_cons.mpr ⟨fun y hy => ?_, ih h2 d2⟩
    rcases Decidable.em (x < y) with k | k
    · exact k
    · exact absurd (List.le_antisymm (List.not_lt.mp (h1 y hy)) (List.not_lt.mp k)) (fun z => d1 (z ▸ hy))
section
variable {X : Cx}
theorem tset_new {w : World} {P : Program} {H : Hp} {h : Heap} {a : Addr} {L : List (List Nat)} (R : SetT w h a L) : ObjOk P w H h a (TSet w a L) := by
  obtain ⟨o, es, ep, t, ho, r⟩ := id R
  exact ⟨R, ⟨o, ho⟩, fun h1 h2 p k => SetT.at p k⟩
/-- set(text) -/
theorem cr_setT (hc : X.calm = true) : CallR X (.type "set") (fun xs H Q => ∃ l, xs = [tx l] ∧ l.length ≤ 4000 ∧ ∀ p, H p = none → Q (.ref p) (upd H p (TSet X.w p (lets l)))) := by
  intro pins s σ H xs us Q I r h
  obtain ⟨l, rfl, hz, q⟩ := h
  obtain ⟨u, rfl, rx⟩ := vals1 r
  obtain ⟨t, rfl⟩ := rx
  refine call_set_text (I.ok.hd hc) (by unfold scanBound; omega) fun h' tk hS hk => ?_
  exact ⟨.ref _, _, I.laid (t' := tk) (fun b o e => hk b o (Heap.lt_size e) e) (Nat.le_refl _) (tset_new hS), rfl, q _ (I.hok.fresh (Nat.le_refl _))⟩
/-- sorted(set) -/
theorem cr_sortSetT (hc : X.calm = true) : CallR X (.builtin "sorted") (fun xs H Q => ∃ (a : Addr) (L : List (List Nat)), xs = [.ref a] ∧ H a = some (TSet X.w a L) ∧
    ∀ (L' : List (List Nat)) (p : Addr), L'.Perm L → L'.Pairwise (· < ·) → H p = none → Q (.ref p) (upd H p (.lst (L'.map tx)))) := by
  intro pins s σ H vs us Q I r h
  obtain ⟨a, L, rfl, ha, q⟩ := h
  have R : SetT X.w s.heap a L := (I.hok a _ ha).1
  rw [Vals.ref1 r]
  have nd : L.Nodup := by obtain ⟨_, _, _, _, _, _, _, _, _, n, _⟩ := R; exact n
  have hLs : L.length ≤ sizeLine := by
    obtain ⟨_, es, _, _, _, _, _, _, pL, _, hb, _⟩ := R
    rw [← pL.length_eq, List.length_map, Array.length_toList]
    exact fits_of_scanBound hb
  refine sorted_setX R (I.ok.hd hc) fun s' p out c ss k g o hp hg hi pm hs => ?_
  have pL' : (ss.map fun z => z.cps.toList).Perm L := by
    have := pm.map fun z : Str => z.cps.toList
    rw [List.map_map] at this
    have e : L.map ((fun z : Str => z.cps.toList) ∘ tS) = L := by
      conv => rhs; rw [← List.map_id L]
      refine List.map_congr_left fun l _ => ?_
      simp [tS]
    rwa [e] at this
  have hn : H p = none := I.hok.fresh hp
  have J : Inv X pins σ (upd H p (.lst ((ss.map fun z => z.cps.toList).map tx))) { s with heap := s'.heap, gens := s'.gens, drawn := s'.drawn, toks := s'.toks } :=
    I.call (ch := []) (Un.laid k hp hn) (I.hok.laid k hp ⟨by rw [List.length_map, pL'.length_eq]; exact hLs, out.toList, c, vals_strsT hi, hg⟩) (by rw [g]; exact I.bare) (fun _ z => nomatch z)
  have e : s' = { s with heap := s'.heap, gens := s'.gens, drawn := s'.drawn, toks := s'.toks } := by
    cases s'
    cases s
    cases o
    rfl
  rw [e]
  refine ⟨.ref p, _, J, rfl, q _ p pL' (up_strict ?_ (pL'.nodup_iff.mpr nd)) hn⟩
  rw [List.pairwise_map]
  exact sorted_pair hs
/-- len(set) -/
theorem cr_lenSetT : CallR X (.builtin "len") (fun xs H Q => ∃ (a : Addr) (L : List (List Nat)), xs = [.ref a] ∧ H a = some (TSet X.w a L) ∧ Q (.int (L.length : Int)) H) := by
  intro pins s σ H vs us Q I r h
  obtain ⟨a, L, rfl, ha, q⟩ := h
  obtain ⟨o, es, ep, t, ho, hex, hd, _, pL, _, hb, hf, _⟩ : SetT X.w s.heap a L := (I.hok a _ ha).1
  rw [Vals.ref1 r]
  have hn : es.size = L.length := by rw [← pL.length_eq, List.length_map, Array.length_toList]
  refine call_len_set ho hex hd hf (by have hb := hb; unfold scanBound at hb; omega) ⟨.int (L.length : Int), H, I.tok _, ⟨_, by rw [hn]⟩, q⟩
end
end L3
/-! Own classes: len(o), repr(o), x in o. -/
namespace L3
open PySem PySem.Spec PyProof.Rows L2
section
variable {X : Cx} {C f : Addr} {fd : FuncData} {k : Nat} {sp : Sp} {E : XK} {y : Str}
/-- a method run from inside a built-in -/
theorem run_own {pins : List (Addr × Obj)} {σ : L2.St} {H : Hp} {s : Shared} {ps : List Str} {us : List Value} {vs : List V} {Q : VK} {R : Value → Shared → Prop} (F : FnOkG X.prog X.w X.K X.mg X.base CX0 k f fd ps sp) (hr : Room (k + 1) X.A) (hG : X.A.guards = some []) (hb : L2.Binds X.K fd ps [])
    (I : L2.Inv X pins σ H s) (r : Vals vs us) (h : sp vs H Q E0) (hR : ∀ u s', EP X pins σ Q u s' → R u s') {E' : Value → Shared → Prop} : wpAny (model X.prog X.w) X.A.in1 (call (.ref f) us) R E' s := by
  have hl : (us ++ []).length = ps.length := by rw [List.append_nil, ← r.length]; exact F.len _ _ _ _ h
  have hb' : BindsTo s fd ⟨us, []⟩ (ps.zip us) := by
    have := hb s us I.kIn hl
    rwa [List.append_nil] at this
  refine wpAny_call (codeAny_mono (F.run X.A.in1 X.stack s H ⟨us, []⟩ us vs Q E0 hr.in1 hG I.env0.in1 hb' r h) fun r s' hq => ?_)
  cases r with
  | error e => exact (show False from hq).elim
  | ok fl =>
    cases fl with
    | ret u => exact hR u s' (I.after hq)
    | next => exact False.elim hq
    | brk => exact False.elim hq
    | cont => exact False.elim hq
/-- len(o) -/
theorem cr_lenOwn (F : FnOkG X.prog X.w X.K X.mg X.base CX0 k f fd ["self"] sp) (hr : Room (k + 1) X.A) (hG : X.A.guards = some []) (hb : L2.Binds X.K fd ["self"] []) (m : Meth X.K C "__len__" f) :
    CallR X (.builtin "len") (fun xs H Q => ∃ a dx fs, xs = [.ref a] ∧ H a = some (.ins C dx fs) ∧ sp [.ref a] H (fun v H' => ∃ n : Nat, v = .int (n : Int) ∧ n ≤ sizeLine ∧ Q (.int (n : Int)) H') E0) := by
  intro pins s σ H xs us Q I r h
  obtain ⟨a, dx, fs, rfl, ha, h⟩ := h
  rw [Vals.ref1 r]
  obtain ⟨mA, O, _⟩ := ins_get I.hok ha
  obtain ⟨od, J, _⟩ := O.look
  obtain ⟨mm, FF⟩ := I.fr
  refine PySem.W.len_K FF I.ok.mod.kin J m.at_ m.fn (run_own (vs := [.ref a]) (us := [.ref a]) F hr hG hb I (.cons rfl .nil) h fun u s' hq => ?_)
  obtain ⟨v, H', I', rv, n, rfl, hn, q⟩ := hq
  obtain ⟨t, rfl⟩ := rv
  exact ⟨⟨by omega, by rw [sizeLine_eq] at hn; omega⟩, .int (n : Int), H', I'.tok _, ⟨_, rfl⟩, q⟩
/-- repr(o) -/
theorem cr_reprOwn (F : FnOkG X.prog X.w X.K X.mg X.base CX0 k f fd ["self"] sp) (hr : Room (k + 1) X.A) (hG : X.A.guards = some []) (hb : L2.Binds X.K fd ["self"] []) (m : Meth X.K C "__repr__" f) :
    CallR X (.builtin "repr") (fun xs H Q => ∃ a dx fs, xs = [.ref a] ∧ H a = some (.ins C dx fs) ∧ sp [.ref a] H (fun v H' => ∃ z : Str, v = .str z ∧ Q (.str z) H') E0) := by
  intro pins s σ H xs us Q I r h
  obtain ⟨a, dx, fs, rfl, ha, h⟩ := h
  rw [Vals.ref1 r]
  obtain ⟨mA, O, _⟩ := ins_get I.hok ha
  obtain ⟨od, J, _⟩ := O.look
  obtain ⟨mm, FF⟩ := I.fr
  have hu := hr.units
  refine PySem.W.repr_K (by show X.A.units + 1 < cLine; omega) FF I.ok.mod.kin J m.at_ m.fn (run_own (vs := [.ref a]) (us := [.ref a]) F hr hG hb I (.cons rfl .nil) h fun u s' hq => ?_)
  obtain ⟨v, H', I', rv, z, rfl, q⟩ := hq
  obtain ⟨t, rfl⟩ := rv
  exact ⟨.str z, H', I', ⟨t, rfl⟩, q⟩
/-- x in o -/
theorem op_inOwn (F : FnOkG X.prog X.w X.K X.mg X.base CX0 k f fd ["self", y] sp) (hr : Room (k + 1) X.A) (hG : X.A.guards = some []) (hb : L2.Binds X.K fd ["self", y] []) (m : Meth X.K C "__contains__" f) :
    OpR X (compareOp .In) (fun x o H Q => ∃ a dx fs, o = .ref a ∧ H a = some (.ins C dx fs) ∧ sp [.ref a, x] H (fun v H' => ∃ b : Bool, v = .bl b ∧ Q (.bl b) H') E0) := by
  intro pins s σ H x o v u Q I rx ro h
  obtain ⟨a, dx, fs, rfl, ha, h⟩ := h
  cases ro
  obtain ⟨mA, O, _⟩ := ins_get I.hok ha
  obtain ⟨od, J, _⟩ := O.look
  obtain ⟨mm, FF⟩ := I.fr
  refine PySem.W.in_K FF I.ok.mod.kin J m.at_ m.fn ?_
  refine thn (run_fnG (vs := [.ref a, x]) (us := [.ref a, v]) (ws := [.ref a, v]) (kw := []) F (hr.mono (Nat.le_succ k)) hG pass0 I (hb s [.ref a, v] I.kIn rfl) (.cons rfl (.cons rx .nil)) h) fun u s' hq => ?_
  obtain ⟨w, H', I', rw', b, rfl, q⟩ := hq
  cases rw'
  cases b
  · exact wpAny_pure ⟨.bl false, H', I', rfl, q⟩
  · exact wpAny_pure ⟨.bl true, H', I', rfl, q⟩
/-- {e!r}, e a list or tuple of data -/
def tFmtRD (K : PySem.W.Frag) (te : TE) : TE := fun σ H Q => te σ H fun x H1 => ∃ (a : Addr) (d : PyData), x = .ref a ∧ Dp K H1 x d ∧ d.showable = true ∧ d.shown.length ≤ sizeLine ∧ d.depth ≤ 50 ∧ Q (.str d.shown) H1
theorem pe_fmtRD {e : Expr} {te : TE} {pos : Pos} (hr : Room k X.A) (hG : X.A.guards = some []) (he : PE X e te) : PE X (.FormattedValue e 114 none pos) (tFmtRD X.K te) := by
  refine ⟨fun pins s σ H Q I h => ?_⟩
  refine wpAny_FormattedValue_repr (thn (he.run pins s σ H _ I h) fun v s1 hv => ?_)
  obtain ⟨x, H1, I1, r1, a, d, rfl, hd, hs, hz, hdp, q⟩ := hv
  cases r1
  have hu := hr.units
  obtain ⟨as, hR⟩ := Dp.reads I1 d (.ref a) (.ref a) hd rfl
  refine pyReprObj_of_reads hR hs (PyData.noDict_hsm (dp_noDict (K := X.K) (H := H1) hd)) hG (by omega) (fun _ _ e => e) (fun h' t tk hk => ?_) hz
  exact wpAny_formatField_str ⟨.str d.shown, H1, I1.kept hk, ⟨_, rfl⟩, q⟩ ⟨.str d.shown, H1, (I1.kept hk).tok _, ⟨_, rfl⟩, q⟩ hz
end
end L3
/-! zip and enumerate of lists, tuples, texts, in any mixture. -/
namespace L3
open PySem PySem.Spec PyProof.Rows L2
/-- what is walked -/
inductive Src where
  | L (a : Addr) | T (a : Addr) | S (x : Str)
/-- its items -/
def Src.has (K : PySem.W.Frag) (H : Hp) : Src → List V → Prop
  | .L a, xs => SqL K H a xs
  | .T a, xs => SqT K H a xs
  | .S x, xs => xs = x.cps.toList.map fun c => V.str ⟨#[c]⟩
def Src.val : Src → V
  | .L a => .ref a
  | .T a => .ref a
  | .S x => .str x
def Src.it : Src → Addr → Nat → Heap → Prop
  | .L a, it, i, h => h.IsListIter it a i
  | .T a, it, i, h => h.IsTupleIter it a i
  | .S x, it, i, h => ∃ t, h.IsStrIter it (strIterType x) x t i
theorem vals_back : ∀ {xs : List V} {us : List Value} {i : Nat} {u : Value}, Vals xs us → us[i]? = some u → ∃ x, xs[i]? = some x ∧ RelV x u
  | _, _, _, _, .nil, e => by simp at e
  | _, _, 0, _, .cons r _, e => by simp at e; subst e; exact ⟨_, rfl, r⟩
  | _, _, i + 1, u, .cons _ t, e => by
    obtain ⟨x, h1, h2⟩ := vals_back (i := i) (u := u) t (by simpa using e)
    exact ⟨x, by simpa using h1, h2⟩
theorem Src.obj {z : Src} {it : Addr} {i : Nat} {h : Heap} (st : z.it it i h) : ∃ o, h.get? it = some o ∧ ∀ v, o.data ≠ .cell v := by
  cases z with
  | L a => obtain ⟨o, e, _, d⟩ := st; exact ⟨o, e, fun v q => by rw [d] at q; cases q⟩
  | T a => obtain ⟨o, e, _, d⟩ := st; exact ⟨o, e, fun v q => by rw [d] at q; cases q⟩
  | S x => obtain ⟨t, o, e, _, d⟩ := st; exact ⟨o, e, fun v q => by rw [d] at q; cases q⟩
theorem Src.keep {z : Src} {it : Addr} {i : Nat} {h h' : Heap} (st : z.it it i h) (k : ∀ o, h.get? it = some o → h'.get? it = some o) : z.it it i h' := by
  cases z with
  | L a => exact Heap.IsListIter.at st k
  | T a => exact Heap.IsTupleIter.at st k
  | S x => obtain ⟨t, o, e, r⟩ := st; exact ⟨t, o, k o e, r⟩
section
variable {X : Cx} {pins : List (Addr × Obj)} {σ : L2.St} {H : Hp} {s : Shared}
theorem Src.draws {z : Src} {xs : List V} {it : Addr} {i : Nat} (hh : X.A.handled = none) (I : L2.Inv X pins σ H s) (q : z.has X.K H xs) (st : z.it it i s.heap) (hn : ∀ a, z.val = .ref a → a ≠ it) :
    ∃ (fp : List Addr) (P : Nat → Value → Prop) (St : Nat → Heap → Prop), Draws X.prog X.w X.A.in1 it (it :: fp) xs.length P St ∧ (∀ b ∈ fp, z.val = .ref b) ∧ St i s.heap ∧ (∀ j h, St j h → z.it it j h) ∧ ∀ j v, P j v → ∃ x, xs[j]? = some x ∧ RelV x v := by
  cases z with
  | L a =>
    obtain ⟨its, rv, p, _⟩ := I.list q
    have e : its.toArray.size = xs.length := by rw [List.size_toArray, rv.length]
    refine ⟨[a], fun i v => its.toArray[i]? = some v, fun i h => h.IsListIter it a i ∧ h.IsList a its.toArray, by rw [← e]; exact Draws.list (A := X.A.in1) hh it a (hn a rfl) its.toArray, fun b hb => by rw [List.mem_singleton.mp hb]; rfl, ⟨st, p.isList⟩, fun j h k => k.1, fun j v hv => vals_back rv (by simpa using hv)⟩
  | T a =>
    obtain ⟨its, rv, p, _⟩ := I.tuple q
    have e : its.toArray.size = xs.length := by rw [List.size_toArray, rv.length]
    refine ⟨[a], fun i v => its.toArray[i]? = some v, fun i h => h.IsTupleIter it a i ∧ h.IsTuple a its.toArray, by rw [← e]; exact Draws.tuple (A := X.A.in1) hh it a (hn a rfl) its.toArray, fun b hb => by rw [List.mem_singleton.mp hb]; rfl, ⟨st, p⟩, fun j h k => k.1, fun j v hv => vals_back rv (by simpa using hv)⟩
  | S x =>
    obtain ⟨t, st⟩ := st
    have q : xs = x.cps.toList.map fun c => V.str ⟨#[c]⟩ := q
    have e : x.cps.size = xs.length := by rw [q]; simp
    refine ⟨[], fun i v => ∃ c u, x.cps[i]? = some c ∧ v = .str ⟨#[c]⟩ u, fun i h => h.IsStrIter it (strIterType x) x t i, by rw [← e]; exact Draws.text (A := X.A.in1) hh it x t, fun b hb => (by cases hb), st, fun j h k => ⟨t, k⟩, fun j v hv => ?_⟩
    obtain ⟨c, u, hc, rfl⟩ := hv
    refine ⟨.str ⟨#[c]⟩, ?_, ⟨u, rfl⟩⟩
    rw [q, List.getElem?_map]
    have : x.cps.toList[j]? = some c := by simpa using hc
    rw [this]; rfl
theorem Src.inj {z : Src} {xs ys : List V} (I : L2.Inv X pins σ H s) (h : z.has X.K H xs) (h' : z.has X.K H ys) : xs = ys := by
  cases z with
  | L a => exact I.list_inj h h'
  | T a => exact I.tuple_inj h h'
  | S x => exact (show xs = _ from h).trans (show ys = _ from h').symm
theorem Src.lt {z : Src} {xs : List V} (I : L2.Inv X pins σ H s) (q : z.has X.K H xs) : ∀ a, z.val = .ref a → a < s.heap.objs.size := by
  intro a ha
  cases z with
  | L b =>
    cases ha
    obtain ⟨its, rv, p, _⟩ := I.list q
    exact p.lt
  | T b =>
    cases ha
    obtain ⟨its, rv, ⟨o, e, _⟩, _⟩ := I.tuple q
    exact Heap.lt_size e
  | S x => cases ha
/-- iter of it -/
theorem Src.begins {z : Src} {xs : List V} {u : Value} (I : L2.Inv X pins σ H s) (q : z.has X.K H xs) (r : RelV z.val u) :
    ∃ (o : Obj) (G : Heap → Prop), Begins u o G ∧ G s.heap ∧ ∀ (h : Heap) (it : Addr), h.get? it = some o → z.it it 0 h := by
  cases z with
  | L a =>
    cases r
    obtain ⟨its, rv, p, _⟩ := I.list q
    exact ⟨_, _, begins_list a its.toArray, p.isList, fun h it e => ⟨_, e, rfl, rfl⟩⟩
  | T a =>
    cases r
    obtain ⟨its, rv, p, _⟩ := I.tuple q
    exact ⟨_, _, begins_tuple a its.toArray, p, fun h it e => ⟨_, e, rfl, rfl⟩⟩
  | S x =>
    obtain ⟨t, rfl⟩ := r
    exact ⟨_, _, begins_text x t, trivial, fun h it e => ⟨t, _, e, rfl, rfl⟩⟩
end
/-! ### zip -/
def ItZ (K : PySem.W.Frag) (y z : Src) : It :=
  ⟨fun i H => ∃ (xs ys : List V) (a b : V), y.has K H xs ∧ z.has K H ys ∧ xs[i]? = some a ∧ ys[i]? = some b,
    fun i H v H' => ∃ T a b, v = .ref T ∧ H T = none ∧ H' = upd H T (.tup [a, b]) ∧ (∀ xs, y.has K H xs → xs[i]? = some a) ∧ ∀ ys, z.has K H ys → ys[i]? = some b,
    fun i H => ∃ xs ys : List V, y.has K H xs ∧ z.has K H ys ∧ i ≤ xs.length ∧ i ≤ ys.length ∧ (i = xs.length ∨ i = ys.length)⟩
theorem turn_zipS {P : Program} {w : World} {K : PySem.W.Frag} {elts : List Expr} {kk : Nat} {tpos : Pos} {N : Nat} {y z : Src} (ly : ∀ a, y.val = .ref a → a < N) (lz : ∀ a, z.val = .ref a → a < N) :
    Turn P w K (.Tuple elts kk tpos) (ItZ K y z) [N + 4, N + 2, N + 3, N, N + 1] (N + 4) (fun i h => IsZip h (N + 4) (N + 2) (N + 3) .none ∧ IsTupOf2 h (N + 2) (.ref N) (.ref (N + 1)) ∧ (∃ a b, IsTupOf2 h (N + 3) a b) ∧ y.it N i h ∧ z.it (N + 1) i h) where
  mem := by simp
  obj := fun i h st c hc => by
    obtain ⟨hz, hTI, ⟨a, b, hTO⟩, h1, h2⟩ := st
    have e' : c = N + 4 ∨ c = N + 2 ∨ c = N + 3 ∨ c = N ∨ c = N + 1 := by simpa using hc
    rcases e' with q | q | q | q | q
    · rw [q]; exact ⟨_, hz, fun v q => nomatch q⟩
    · rw [q]; exact ⟨_, hTI, fun v q => nomatch q⟩
    · rw [q]; exact ⟨_, hTO, fun v q => nomatch q⟩
    · rw [q]; exact Src.obj h1
    · rw [q]; exact Src.obj h2
  keep := fun i h h' st k => by
    obtain ⟨hz, hTI, ⟨a, b, hTO⟩, h1, h2⟩ := st
    exact ⟨k _ (by simp) _ hz, k _ (by simp) _ hTI, ⟨a, b, k _ (by simp) _ hTO⟩, Src.keep h1 fun o q => k N (by simp) o q, Src.keep h2 fun o q => k (N + 1) (by simp) o q⟩
  item := by
    intro X hP hw hK hc i pins s σ H E I hf st hg
    subst hP hw hK
    obtain ⟨hz, hTI, ⟨a0, b0, hTO⟩, h1, h2⟩ := st
    obtain ⟨xs, ys, a, b, hqx, hqy, ha, hb⟩ := hg
    have hh := I.ok.hd hc
    obtain ⟨fp1, P1, St1, D1, f1, s1, b1, p1⟩ := Src.draws hh I hqx h1 (fun c e => Nat.ne_of_lt (ly c e))
    obtain ⟨fp2, P2, St2, D2, f2, s2, b2, p2⟩ := Src.draws hh I hqy h2 (fun c e => Nat.ne_of_lt (Nat.lt_succ_of_lt (lz c e)))
    have S : ZipSep2 (N + 4) (N + 2) (N + 3) N (N + 1) (N :: fp1) ((N + 1) :: fp2) := zip_sep2 (fun c e => ly c (f1 c e)) (fun c e => lz c (f2 c e))
    have hzl : N + 4 < s.heap.objs.size := Heap.lt_size hz
    have l1 : i < xs.length := (List.getElem?_eq_some_iff.mp ha).1
    have l2 : i < ys.length := (List.getElem?_eq_some_iff.mp hb).1
    refine wpAny_pyNext_zipD2_item S D1 D2 hz hTI hTO s1 s2 l1 l2 fun u u2 h' tk hu hu2 z' TO' st1 st2 hT hsz hk => ?_
    obtain ⟨a', ea, ra⟩ := p1 i u hu
    obtain ⟨b', eb, rb⟩ := p2 i u2 hu2
    refine ⟨_, rfl, wpAny_letOwnedTupleGo_zip (s := { s with heap := h', toks := tk }) z' fun h'' z'' sb => ?_⟩
    have hT2 : h''.get? s.heap.objs.size = some { cls := .type "tuple", data := .seq #[u, u2] } := (sb.2 _ (Nat.ne_of_gt (Heap.lt_size hz))).trans hT
    have new : ObjOk X.prog X.w (upd H s.heap.objs.size (.tup [a', b'])) h'' s.heap.objs.size (.tup [a', b']) :=
      ⟨by show 2 ≤ sizeLine; decide, [u, u2], .cons ra (.cons rb .nil), ⟨_, hT2, rfl, _, rfl⟩⟩
    have I1 : L2.Inv X pins σ (upd H s.heap.objs.size (.tup [a', b'])) { s with heap := h'', toks := tk } :=
      I.turnedNew (t' := tk) (ch := [N + 4, N + 2, N + 3, N, N + 1]) (fun c o hb q => (sb.2 c (fun q' => hb (by simp [q']))).trans (hk c o (fun q' => hb (by simp [q'])) (fun q' => hb (by simp [q'])) (fun q' => hb (by simp [q'])) (fun q' => hb (by simp [q'])) q)) hf (Nat.le_refl _) new
    refine ⟨.ref s.heap.objs.size, _, I1, rfl, ⟨_, a', b', rfl, I.hok.fresh (Nat.le_refl _), rfl, fun l hl => by rw [Src.inj I hl hqx]; exact ea, fun l hl => by rw [Src.inj I hl hqy]; exact eb⟩, ⟨z'', ?_, ⟨u, u2, ?_⟩, ?_, ?_⟩, fun c hcm => ?_⟩
    · exact (sb.2 _ S.TIz).trans (hk _ _ S.TIz S.TITO S.TIi1 S.TIi2 hTI)
    · exact (sb.2 _ S.TOz).trans TO'
    · exact Src.keep (b1 _ _ st1) fun o q => (sb.2 _ (Nat.ne_of_lt (Nat.lt_add_of_pos_right (by decide)))).trans q
    · exact Src.keep (b2 _ _ st2) fun o q => (sb.2 _ (Nat.ne_of_lt (Nat.add_lt_add_left (by decide) N))).trans q
    · have hlt : c < s.heap.objs.size := by
        have e' : c = N + 4 ∨ c = N + 2 ∨ c = N + 3 ∨ c = N ∨ c = N + 1 := by simpa using hcm
        have l3 : N + 4 < s.heap.objs.size := Heap.lt_size hz
        rcases e' with q | q | q | q | q
        · rw [q]; exact l3
        · rw [q]; exact Nat.lt_trans (Nat.add_lt_add_left (by decide) N) l3
        · rw [q]; exact Nat.lt_trans (Nat.add_lt_add_left (by decide) N) l3
        · rw [q]; exact Nat.lt_trans (Nat.lt_add_of_pos_right (by decide)) l3
        · rw [q]; exact Nat.lt_trans (Nat.add_lt_add_left (by decide) N) l3
      rw [upd_ne (Nat.ne_of_lt hlt)]
      exact (hf c hcm).1
  done := by
    intro X hP hw hK hc i pins s σ H E I hf st hg
    subst hP hw hK
    obtain ⟨hz, hTI, ⟨a0, b0, hTO⟩, h1, h2⟩ := st
    obtain ⟨xs, ys, hqx, hqy, e1, e2, he⟩ := hg
    have hh := I.ok.hd hc
    obtain ⟨fp1, P1, St1, D1, f1, s1, b1, p1⟩ := Src.draws hh I hqx h1 (fun c e => Nat.ne_of_lt (ly c e))
    obtain ⟨fp2, P2, St2, D2, f2, s2, b2, p2⟩ := Src.draws hh I hqy h2 (fun c e => Nat.ne_of_lt (Nat.lt_succ_of_lt (lz c e)))
    have S : ZipSep2 (N + 4) (N + 2) (N + 3) N (N + 1) (N :: fp1) ((N + 1) :: fp2) := zip_sep2 (fun c e => ly c (f1 c e)) (fun c e => lz c (f2 c e))
    exact wpAny_pyNext_zipD2_end S D1 D2 hz hTI hTO s1 s2 e1 e2 he fun h' tk hk => ⟨rfl, I.turnedL (t' := tk) (ch := [N + 4, N + 2, N + 3, N, N + 1]) (fun c o hb q =>
      hk c o (fun q' => hb (by simp [q'])) (fun q' => hb (by simp [q'])) (fun q' => hb (by simp [q'])) (fun q' => hb (by simp [q'])) q) hf⟩
  self := fun A i s Q E st h => wpAny_pyIter_zip st.1 h
/-- zip(e, e2) -/
def iZipS (K : PySem.W.Frag) (ta : TA) : TI := fun σ H R => ta σ H fun vs H1 => ∃ (y z : Src) (xs ys : List V), vs = [y.val, z.val] ∧ y.has K H1 xs ∧ z.has K H1 ys ∧ R (ItZ K y z) H1
theorem pi_zipS {X : Cx} {e e2 : Expr} {ta : TA} {p pos tpos : Pos} {elts : List Expr} {kk : Nat} (hg : Gl X "zip") (hm : X.mg "zip" = none) (ha : PA X [e, e2] ta)
    (hs : starEach [e, e2] X.env = (false, eval e X.env) :: starEach [e2] X.env := by rfl) (hpl : (backTo pos (starEach [e2] X.env)).any (·.1) = false := by rfl) :
    PI X (.Tuple elts kk tpos) (.Call (.Name "zip" p) [e, e2] [] pos) (iZipS X.K ta) := by
  refine ⟨fun pins s σ H R I h => ?_⟩
  refine Call_ (ld_blt I hg hm PyProof.Rows.boot_zip (PyProof.Rows.callWith_type1 (thn (ha.run pos pins s σ H _ I h) fun us s1 ⟨vs, H1, I1, r1, q1⟩ => ?_) hs hpl))
  obtain ⟨y, z, xs, ys, ex, hqx, hqy, q⟩ := q1
  subst ex
  cases r1 with
  | cons r rr =>
    cases rr with
    | cons r' rr =>
      cases rr
      obtain ⟨o1, G1, B1, g1, k1⟩ := Src.begins I1 hqx r
      obtain ⟨o2, G2, B2, g2, k2⟩ := Src.begins I1 hqy r'
      refine zip_begins2 B1 B2 g1 g2 fun h' hz hTI hTO c1 c2 hsz hk => wpAny_pyIter_zip hz ?_
      have I2 : L2.Inv X pins σ H1 { s1 with heap := h' } := I1.kept (t' := s1.toks) hk
      refine ⟨s1.heap.objs.size + 4, [s1.heap.objs.size + 4, s1.heap.objs.size + 2, s1.heap.objs.size + 3, s1.heap.objs.size, s1.heap.objs.size + 1], _, _, H1, rfl, I2, turn_zipS (Src.lt I1 hqx) (Src.lt I1 hqy), ⟨hz, hTI, ⟨_, _, hTO⟩, k1 _ _ c1, k2 _ _ c2⟩, fun c hcm => ?_, q⟩
      have e' : c = s1.heap.objs.size + 4 ∨ c = s1.heap.objs.size + 2 ∨ c = s1.heap.objs.size + 3 ∨ c = s1.heap.objs.size ∨ c = s1.heap.objs.size + 1 := by simpa using hcm
      have hle : s1.heap.objs.size ≤ c := by rcases e' with q | q | q | q | q <;> rw [q] <;> omega
      exact I1.fpOk hle (I1.hok.fresh hle)
theorem walk_zipS {K : PySem.W.Frag} {y z : Src} {xs ys : List V} (hn : xs.length = ys.length) : Walk (ItZ K y z) xs.length (fun H => y.has K H xs ∧ z.has K H ys) (YPair (fun i => xs[i]?) (fun i => ys[i]?)) := by
  refine ⟨fun i _ hi q => ?_, fun _ q => ⟨xs, ys, q.1, q.2, Nat.le_refl _, by omega, .inl rfl⟩, fun i H v H' _ q y => ?_⟩
  · have h2 : i < ys.length := by omega
    exact ⟨xs, ys, xs[i], ys[i], q.1, q.2, by simp [hi], by simp [h2]⟩
  · obtain ⟨T, x, z, h1, h2, h3, h4, h5⟩ := y
    exact ⟨T, x, z, h1, h2, h3, h4 xs q.1, h5 ys q.2⟩
/-! ### enumerate -/
def ItE (K : PySem.W.Frag) (y : Src) : It :=
  ⟨fun i H => ∃ (xs : List V) (a : V), y.has K H xs ∧ xs[i]? = some a,
    fun i H v H' => ∃ T a, v = .ref T ∧ H T = none ∧ H' = upd H T (.tup [.int (i : Nat), a]) ∧ ∀ xs, y.has K H xs → xs[i]? = some a,
    fun i H => ∃ xs : List V, y.has K H xs ∧ i = xs.length⟩
theorem turn_enumS {P : Program} {w : World} {K : PySem.W.Frag} {elts : List Expr} {kk : Nat} {tpos : Pos} {N : Nat} {y : Src} (ly : ∀ a, y.val = .ref a → a < N) :
    Turn P w K (.Tuple elts kk tpos) (ItE K y) [N + 1, N] (N + 1) (fun i h => (∃ old, IsEnum h (N + 1) N ((i : Nat) : Int) old) ∧ y.it N i h) where
  mem := by simp
  obj := fun i h st b hb => by
    obtain ⟨⟨old, he⟩, h1⟩ := st
    have e' : b = N + 1 ∨ b = N := by simpa using hb
    rcases e' with q | q
    · rw [q]; exact ⟨_, he, fun v q => nomatch q⟩
    · rw [q]; exact Src.obj h1
  keep := fun i h h' st k => by
    obtain ⟨⟨old, he⟩, h1⟩ := st
    exact ⟨⟨old, k _ (by simp) _ he⟩, Src.keep h1 fun o q => k N (by simp) o q⟩
  item := by
    intro X hP hw hK hc i pins s σ H E I hf st hg
    subst hP hw hK
    obtain ⟨⟨old, he⟩, h1⟩ := st
    obtain ⟨xs, a, hqx, ha⟩ := hg
    have hh := I.ok.hd hc
    obtain ⟨fp1, P1, St1, D1, f1, s1, b1, p1⟩ := Src.draws hh I hqx h1 (fun c e => Nat.ne_of_lt (ly c e))
    have hel : N + 1 < s.heap.objs.size := Heap.lt_size he
    have l1 : i < xs.length := (List.getElem?_eq_some_iff.mp ha).1
    have hef : N + 1 ∉ N :: fp1 := fun hm => by
      rcases List.mem_cons.mp hm with e | hm
      · exact Nat.succ_ne_self N e
      · exact absurd (ly _ (f1 _ hm)) (Nat.not_lt.mpr (Nat.le_succ N))
    refine wpAny_pyNext_enum_itemD D1 he s1 l1 (Nat.succ_ne_self N) hef fun u h' tk hu ho st1 hT hsz hk => ?_
    obtain ⟨a', ea, ra⟩ := p1 i u hu
    refine ⟨_, rfl, wpAny_letOwnedTupleGo_enum (s := { s with heap := h', toks := tk + 1 }) ho fun h'' he' sb => ?_⟩
    have hT2 : h''.get? s.heap.objs.size = some { cls := .type "tuple", data := .seq #[.int i tk, u] } := (sb.2 _ (Nat.ne_of_gt (Heap.lt_size he))).trans hT
    have new : ObjOk X.prog X.w (upd H s.heap.objs.size (.tup [.int (i : Nat), a'])) h'' s.heap.objs.size (.tup [.int (i : Nat), a']) :=
      ⟨by show 2 ≤ sizeLine; decide, [.int i tk, u], .cons ⟨_, rfl⟩ (.cons ra .nil), ⟨_, hT2, rfl, _, rfl⟩⟩
    have I1 : L2.Inv X pins σ (upd H s.heap.objs.size (.tup [.int (i : Nat), a'])) { s with heap := h'', toks := tk + 1 } :=
      I.turnedNew (ch := [N + 1, N]) (fun b ob hb q => (sb.2 b (fun z => hb (by simp [z]))).trans (hk b ob (fun z => hb (by simp [z])) (fun z => hb (by simp [z])) q)) hf (Nat.le_refl _) new
    refine ⟨.ref s.heap.objs.size, _, I1, rfl, ⟨_, a', rfl, I.hok.fresh (Nat.le_refl _), rfl, fun ys hy => by rw [Src.inj I hy hqx]; exact ea⟩, ⟨⟨u, ?_⟩, Src.keep (b1 _ _ st1) fun o q => (sb.2 N (Nat.ne_of_lt (Nat.lt_succ_self N))).trans q⟩, fun b hb => ?_⟩
    · have e1 : ((i + 1 : Nat) : Int) = (i : Int) + 1 := by omega
      rw [e1]; exact he'
    · have hb' : b < s.heap.objs.size := by
        have e' : b = N + 1 ∨ b = N := by simpa using hb
        rcases e' with q | q
        · rw [q]; exact hel
        · rw [q]; exact Nat.lt_trans (Nat.lt_succ_self N) hel
      rw [upd_ne (Nat.ne_of_lt hb')]
      exact (hf b hb).1
  done := by
    intro X hP hw hK hc i pins s σ H E I hf st hg
    subst hP hw hK
    obtain ⟨⟨old, he⟩, h1⟩ := st
    obtain ⟨xs, hqx, e⟩ := hg
    have hh := I.ok.hd hc
    obtain ⟨fp1, P1, St1, D1, f1, s1, b1, p1⟩ := Src.draws hh I hqx h1 (fun c e => Nat.ne_of_lt (ly c e))
    obtain ⟨f0, f1', f2, f3, f4, f5⟩ := hf N (by simp)
    exact wpAny_pyNext_enum_endD D1 he (e ▸ s1) fun h' eb => ⟨rfl, I.turned (t' := s.toks) (fun b o hb q => eb b o hb q) f0 f1' f3 f4 f5⟩
  self := fun A i s Q E st h => let ⟨⟨_, he⟩, _⟩ := st; wpAny_pyIter_enum he h
theorem meets_enum1 {v : Value} {o : Obj} {G : Heap → Prop} (B : Begins v o G) :
    Meets (Builtin.«enumerate.__new__» ⟨[.type "enumerate", v], []⟩) (fun _ R s => G s.heap ∧
      R (.ok (.ret (.ref (s.heap.push o).objs.size))) { s with heap := (s.heap.push o).push { cls := .type "enumerate", data := .fields #[.none, .bool false, .ref s.heap.objs.size, rawInt 0, .none, .none] } }) :=
  .of_wp fun prog w A R s h => by
    obtain ⟨hp, g, d, tk, os⟩ := s; obtain ⟨h1, h⟩ := h
    have hsub := sub_enumerate
    have q1 : ∀ {A' : Around} {E : Value → Shared → Prop} {Q : Value → Shared → Prop}, Q (.ref hp.objs.size) ⟨hp.push o, g, d, tk, os⟩ → wpAny (model prog w) A' (pyIter v) Q E ⟨hp, g, d, tk, os⟩ :=
      fun q => B.iter prog w _ _ ⟨hp, g, d, tk, os⟩ _ h1 q
    wp_walk using q1
    refine wpAny_stack_any fun st => wpAny_pure ?_
    split
    · rename_i c _ _ _ _ _
      cases (c == Value.type "enumerate")
      · wp_walk using q1
        exact ⟨_, rfl, h⟩
      · wp_walk using q1
        exact ⟨_, rfl, h⟩
    · wp_walk using q1
      exact ⟨_, rfl, h⟩
theorem enum_begins1 {prog : Program} {w : World} {A : Around} {E : Value → Shared → Prop} {s : Shared} {v : Value} {o : Obj} {G : Heap → Prop} {Q : Value → Shared → Prop} (B : Begins v o G) (h1 : G s.heap)
    (h : ∀ h', IsEnum h' (s.heap.objs.size + 1) s.heap.objs.size 0 .none → h'.get? s.heap.objs.size = some o → h'.objs.size = s.heap.objs.size + 2 →
      (∀ b o, s.heap.get? b = some o → h'.get? b = some o) → Q (.ref (s.heap.objs.size + 1)) { s with heap := h' }) :
    wpAny (model prog w) A (call (.type "enumerate") [v]) Q E s := by
  refine callType_new F.called_enumerate (by decide) (F.typeCall_enumerate_1 _) (F.newCall_enumerate_1 _) (fun obj => F.args_object_init_2 obj _) F.entry_enumerate_new (meets_enum1 B) ⟨h1, ?_⟩
  have hz : (s.heap.push o).objs.size = s.heap.objs.size + 1 := Heap.size_push ..
  show _ ∧ _
  rw [hz]
  have he : IsEnum ((s.heap.push o).push { cls := .type "enumerate", data := .fields #[.none, .bool false, .ref s.heap.objs.size, rawInt 0, .none, .none] }) (s.heap.objs.size + 1) s.heap.objs.size 0 .none := by
    have := Heap.get?_push_size (s.heap.push o) (o := { cls := .type "enumerate", data := .fields #[.none, .bool false, .ref s.heap.objs.size, rawInt 0, .none, .none] }) rfl
    rw [hz] at this; exact this
  exact ⟨⟨_, he, rfl⟩, h _ he (Heap.get?_push_of_some _ (Heap.get?_push_size _ B.free)) (by rw [Heap.size_push, hz]) fun b o x => Heap.get?_push_of_some _ (Heap.get?_push_of_some _ x)⟩
/-- enumerate(e) -/
def iEnumS (K : PySem.W.Frag) (ta : TA) : TI := fun σ H R => ta σ H fun vs H1 => ∃ (y : Src) (xs : List V), vs = [y.val] ∧ y.has K H1 xs ∧ R (ItE K y) H1
theorem pi_enumS {X : Cx} {e : Expr} {ta : TA} {p pos tpos : Pos} {elts : List Expr} {kk : Nat} (hg : Gl X "enumerate") (hm : X.mg "enumerate" = none) (ha : PA X [e] ta) (hs : starEach [e] X.env = [(false, eval e X.env)] := by rfl) :
    PI X (.Tuple elts kk tpos) (.Call (.Name "enumerate" p) [e] [] pos) (iEnumS X.K ta) := by
  refine ⟨fun pins s σ H R I h => ?_⟩
  refine Call_ (ld_blt I hg hm boot_enumerate (PyProof.Rows.callWith_type1 (thn (ha.run pos pins s σ H _ I h) fun us s1 ⟨vs, H1, I1, r1, q1⟩ => ?_) hs rfl))
  obtain ⟨y, xs, ex, hq, q⟩ := q1
  subst ex
  cases r1 with
  | cons r rr =>
    cases rr
    obtain ⟨o1, G1, B1, g1, k1⟩ := Src.begins I1 hq r
    refine enum_begins1 B1 g1 fun h' he c1 hsz hk => wpAny_pyIter_enum he ?_
    have I2 : L2.Inv X pins σ H1 { s1 with heap := h' } := I1.kept (t' := s1.toks) hk
    refine ⟨s1.heap.objs.size + 1, [s1.heap.objs.size + 1, s1.heap.objs.size], _, _, H1, rfl, I2, turn_enumS (Src.lt I1 hq), ⟨⟨.none, he⟩, k1 _ _ c1⟩, fun b hb => ?_, q⟩
    have e' : b = s1.heap.objs.size + 1 ∨ b = s1.heap.objs.size := by simpa using hb
    have hle : s1.heap.objs.size ≤ b := by rcases e' with q | q <;> rw [q] <;> omega
    exact I1.fpOk hle (I1.hok.fresh hle)
theorem walk_enumS {K : PySem.W.Frag} {y : Src} {xs : List V} : Walk (ItE K y) xs.length (fun H => y.has K H xs) (YPair (fun i => some (.int (i : Nat))) (fun i => xs[i]?)) := by
  refine ⟨fun i _ hi q => ⟨xs, xs[i], q, by simp [hi]⟩, fun _ q => ⟨xs, q, rfl⟩, fun i H v H' _ q y => ?_⟩
  obtain ⟨T, x, h1, h2, h3, h4⟩ := y
  exact ⟨T, .int (i : Nat), x, h1, h2, h3, rfl, h4 xs q⟩
end L3
/-! Own classes: o == x, o != x by the class's own __eq__, with any answer. -/
namespace L3
open PySem PySem.Spec PyProof.Rows L2
section
variable {M : Model} {prog : Program} {w : World} {A : Around} {E : Value → Shared → Prop} {s : Shared} {K : PySem.W.Frag} {x C f : Addr} {ox : Obj} {od : Option Obj} {b tb : Value}
theorem ne_entry {Q : PySem.Fin → Shared → Prop} (hu : A.units < cLine) (X : K.In s.heap) (I : PySem.W.InstAt s.heap x ox C od) (hs : PySem.W.findIn K (.ref C) "__eq__" = some (some (.ref f))) (hf : PySem.W.isFn K (.ref f) = true)
    (hcall : wpAny (model prog w) A (call (.ref f) [.ref x, b]) (fun v s' => ∃ z, v = .bool z ∧ Q (.done (.ret (.bool (!z)))) s') E s) :
    wpAny (model prog w) A (Builtin.«object.__ne__» ⟨[.ref x, b], []⟩) Q E s := by
  unfold Builtin.«object.__ne__»
  repeat (first
    | with_reducible refine wpAny_cRoomFor hu ?_
    | (refine wpAny_bind (m := callSpecialIfBound? (.ref x) (Str.ofString "__eq__") [b])
        (PySem.W.ifBound_K X I hs hf (wpAny_mono hcall (fun r s' hr => by
          obtain ⟨b, rfl, hq⟩ := hr
          repeat (first | exact hq | exact wpAny_pure hq | exact wpAny_truthy_bool hq | (refine wpAny_bind (m := truthy (.bool _)) (wpAny_truthy_bool ?_)) | wp_step)) fun _ _ e => e)))
    | wp_step)
theorem ifBound_ne {args : List Value} {Q : Option Value → Shared → Prop} (X : K.In s.heap) (I : PySem.W.InstAt s.heap x ox C od) (hs : PySem.W.findIn K (.ref C) "__ne__" = some (some (.builtin "object.__ne__")))
    (h : wpAny M A (call (.builtin "object.__ne__") (.ref x :: args)) (fun v => Q (some v)) E s) : wpAny M A (callSpecialIfBound? (.ref x) "__ne__" args) Q E s := by
  simp only [callSpecialIfBound?, bindSpecialIfBound?]
  refine wpAny_holding (wpAny_bind (wpAny_bind (wpAny_bind (I.type.here ((PySem.W.looks_findIn X hs).here ?_)))))
  refine wpAny_bind (wpAny_askSetting (wpAny_ite ?_))
  have fin : wpAny M A (call (.builtin "object.__ne__") ([.ref x] ++ args) >>= fun v => pure (some v)) Q E s := wpAny_bind (wpAny_mono h (fun v s' h' => wpAny_pure h') fun _ _ h' => h')
  split
  · exact wpAny_bind (wpAny_of_eq (F.cmp_object.ne.bind _) (wpAny_pure (by exact fin)))
  · exact wpAny_tryCatch (wpAny_bind (wpAny_of_eq (F.cmp_object.ne.bind _) (wpAny_pure (by exact fin))))
theorem rc_ne {Q : Value → Shared → Prop} (hu : A.units + 1 < cLine) (X : K.In s.heap) (I : PySem.W.InstAt s.heap x ox C od) (hb : PySem.W.Looks (model prog w) s.heap (typeOf b) tb) (hn : PySem.W.notFirst K C tb = true)
    (hm : PySem.W.mroIn K C (.type "object") = some true) (hne : PySem.W.findIn K (.ref C) "__ne__" = some (some (.builtin "object.__ne__"))) (hs : PySem.W.findIn K (.ref C) "__eq__" = some (some (.ref f))) (hf : PySem.W.isFn K (.ref f) = true)
    (h : wpAny (model prog w) A.in1 (call (.ref f) [.ref x, b]) (fun v s' => ∃ z, v = .bool z ∧ Q (.bool (!z)) s') E s) : wpAny (model prog w) A (richCompare .NotEq (.ref x) b) Q E s := by
  have one : wpAny (model prog w) A (tryCompare (.ref x) "__ne__" b) (fun r s' => ∃ v, r = some v ∧ Q v s') E s := by
    unfold tryCompare
    refine wpAny_bind (ifBound_ne X I hne (wpAny_call (codeAny_call_builtin F.cmp_object.ne.plain F.cmpEntry_ne (PySem.W.check_slot F.cmpKind_ne F.cmpSplit_ne (I.type.andThen (PySem.W.looks_mroIn X hm)) (F.cmpArgs_ne _ _)
      (ne_entry (A := A.in1) hu X I hs hf (wpAny_mono h (fun v s' hv => ?_) fun _ _ e => e))))))
    obtain ⟨z, rfl, hq⟩ := hv
    first | exact ⟨z, rfl, wpAny_pure ⟨_, rfl, hq⟩⟩ | exact ⟨z, rfl, wpAny_pure (wpAny_pure ⟨_, rfl, hq⟩)⟩ | exact ⟨z, rfl, ⟨_, rfl, hq⟩⟩
  unfold richCompare
  simp only [oneThing_ref]
  refine wpAny_holding (wpAny_bind (wpAny_cRoomFor (Nat.lt_of_succ_lt hu) ?_))
  refine wpAny_bind (I.type.here (wpAny_bind (hb.here ?_)))
  rw [cmpInfo_NotEq]
  dsimp only
  split
  · rename_i q
    have e : PySem.W.subIn K tb (.ref C) = some false := by
      rcases Bool.or_eq_true_iff.mp hn with e | e
      · rw [beq_iff_eq.mp e] at q; simp at q
      · exact beq_iff_eq.mp e
    refine wpAny_bind ((PySem.W.looks_subIn X e).here ?_)
    simp only [Bool.false_eq_true, if_false]
    refine wpAny_bind (wpAny_mono one (fun r s' z => ?_) fun _ _ e => e)
    obtain ⟨v, rfl, hq⟩ := z
    exact wpAny_pure hq
  · refine wpAny_bind (wpAny_pure ?_)
    simp only [Bool.false_eq_true, if_false]
    refine wpAny_bind (wpAny_mono one (fun r s' z => ?_) fun _ _ e => e)
    obtain ⟨v, rfl, hq⟩ := z
    exact wpAny_pure hq
end
section
variable {X : Cx} {C f : Addr} {fd : FuncData} {k : Nat} {sp : Sp} {y : Str}
theorem looks_of {pins : List (Addr × Obj)} {σ : L2.St} {H : Hp} {s : Shared} {x : V} {u t : Value} (I : L2.Inv X pins σ H s) (rx : RelV x u) (ty : TyX X.K H x t) : PySem.W.Looks (model X.prog X.w) s.heap (typeOf u) t := by
  obtain ⟨P, Z, p, _⟩ := kit_of I rx ty
  exact Z.ty _ _ I.kIn p
/-- o == x -/
theorem op_eqOwn (F : FnOkG X.prog X.w X.K X.mg X.base CX0 k f fd ["self", y] sp) (hr : Room k X.A) (hG : X.A.guards = some []) (hb : L2.Binds X.K fd ["self", y] []) (m : Meth X.K C "__eq__" f) :
    OpR X (compareOp .Eq) (fun o x H Q => ∃ a dx fs t, o = .ref a ∧ H a = some (.ins C dx fs) ∧ TyX X.K H x t ∧ PySem.W.notFirst X.K C t = true ∧ sp [.ref a, x] H (fun v H' => ∃ b : Bool, v = .bl b ∧ Q (.bl b) H') E0) := by
  intro pins s σ H o x v u Q I ro rx h
  obtain ⟨a, dx, fs, t, rfl, ha, ty, hn, h⟩ := h
  cases ro
  obtain ⟨mA, O, _⟩ := ins_get I.hok ha
  obtain ⟨od, J, _⟩ := O.look
  obtain ⟨mm, FF⟩ := I.fr
  show wpAny (model X.prog X.w) X.A (richCompare .Eq (.ref a) u) _ _ s
  refine PySem.W.cmp_K (op := .Eq) hr.units0 FF I.ok.mod.kin J (looks_of I rx ty) hn m.at_ m.fn ?_
  refine thn (run_fnG (vs := [.ref a, x]) (us := [.ref a, u]) (ws := [.ref a, u]) (kw := []) F hr hG pass0 I (hb s [.ref a, u] I.kIn rfl) (.cons rfl (.cons rx .nil)) h) fun w s' hq => ?_
  obtain ⟨v, H', I', rv, b, rfl, q⟩ := hq
  cases rv
  exact (show EP X pins σ Q (.bool b) s' from ⟨.bl b, H', I', rfl, q⟩)
/-- o != x -/
theorem op_neOwn (F : FnOkG X.prog X.w X.K X.mg X.base CX0 k f fd ["self", y] sp) (hr : Room (k + 1) X.A) (hG : X.A.guards = some []) (hb : L2.Binds X.K fd ["self", y] []) (m : Meth X.K C "__eq__" f)
    (hm : PySem.W.mroIn X.K C (.type "object") = some true) (hne : PySem.W.findIn X.K (.ref C) "__ne__" = some (some (.builtin "object.__ne__"))) :
    OpR X (compareOp .NotEq) (fun o x H Q => ∃ a dx fs t, o = .ref a ∧ H a = some (.ins C dx fs) ∧ TyX X.K H x t ∧ PySem.W.notFirst X.K C t = true ∧ sp [.ref a, x] H (fun v H' => ∃ b : Bool, v = .bl b ∧ Q (.bl (!b)) H') E0) := by
  intro pins s σ H o x v u Q I ro rx h
  obtain ⟨a, dx, fs, t, rfl, ha, ty, hn, h⟩ := h
  cases ro
  obtain ⟨mA, O, _⟩ := ins_get I.hok ha
  obtain ⟨od, J, _⟩ := O.look
  show wpAny (model X.prog X.w) X.A (richCompare .NotEq (.ref a) u) _ _ s
  have hu := hr.units
  refine rc_ne (by omega) I.kIn J (looks_of I rx ty) hn hm hne m.at_ m.fn ?_
  refine run_own (vs := [.ref a, x]) (us := [.ref a, u]) F hr hG hb I (.cons rfl (.cons rx .nil)) h fun w s' hq => ?_
  obtain ⟨v, H', I', rv, b, rfl, q⟩ := hq
  cases rv
  exact ⟨b, rfl, .bl (!b), H', I', rfl, q⟩
end
end L3
/-! Deep data: heaps that grow, items; lists or tuples; text.index; weights of what is shown; == of data. -/
namespace L3
open PySem PySem.Spec PyProof.Rows L2
/-- numbers as values -/
def nV (l : List Nat) : List V := l.map fun (n : Nat) => V.int (n : Int)
theorem nV_len (l : List Nat) : (nV l).length = l.length := by unfold nV; rw [List.length_map]
theorem nV_get {l : List Nat} {i n : Nat} (h : l[i]? = some n) : (nV l)[i]? = some (V.int (n : Int)) := by unfold nV; rw [List.getElem?_map, h]; rfl
theorem nV_inv {l : List Nat} {i : Nat} {v : V} (h : (nV l)[i]? = some v) : ∃ n, l[i]? = some n ∧ v = V.int (n : Int) := by
  unfold nV at h
  rw [List.getElem?_map] at h
  obtain ⟨n, h1, h2⟩ := Option.map_eq_some_iff.mp h
  exact ⟨n, h1, h2.symm⟩
theorem nV_flat (l : List Nat) : (nV l).all flatV = true := by
  rw [List.all_eq_true]
  intro x hx
  obtain ⟨n, _, rfl⟩ := List.mem_map.mp hx
  rfl
theorem eqV_int (a b : Nat) : eqV (.int (a : Int)) (.int (b : Int)) = decide (a = b) := by
  show ((a : Int) == (b : Int)) = _
  by_cases h : a = b
  · subst h; simp
  · rw [decide_eq_false h]; exact beq_eq_false_iff_ne.mpr (by omega)
theorem nV_in (n : Nat) (l : List Nat) : inV (.int (n : Int)) (nV l) = decide (n ∈ l) := by
  unfold inV nV
  rw [List.any_map]
  by_cases h : n ∈ l
  · rw [decide_eq_true h, List.any_eq_true]
    exact ⟨n, h, by show eqV (.int (n : Int)) (.int (n : Int)) = true; rw [eqV_int]; exact decide_eq_true rfl⟩
  · rw [decide_eq_false h, List.any_eq_false]
    intro x hx e
    have e : eqV (.int (x : Int)) (.int (n : Int)) = true := e
    rw [eqV_int] at e
    exact h (of_decide_eq_true e ▸ hx)
theorem idx_first : ∀ {l : List Nat} {n m k : Nat}, m < l.idxOf n → l[m]? = some k → k ≠ n
  | [], n, m, k, hm, h => by simp at h
  | a :: l, n, m, k, hm, h => by
    rw [List.idxOf_cons] at hm
    by_cases e : a = n
    · subst e; simp at hm
    · have e' : (a == n) = false := by simpa using e
      rw [e'] at hm
      simp only [cond_false] at hm
      cases m with
      | zero => simp at h; subst h; exact e
      | succ m => exact idx_first (l := l) (m := m) (by omega) (by simpa using h)
/-! ### Dp -/
mutual
theorem Dp.same {K : PySem.W.Frag} {H H' : Hp} (s : Same H H') : ∀ {v : V} {d : PyData}, Dp K H v d → Dp K H' v d
  | _, _, .non => .non
  | _, _, .bl b => .bl b
  | _, _, .int i => .int i
  | _, _, .str x => .str x
  | _, _, .lst h a => .lst (sq_same h s) (DpAll.same s a)
  | _, _, .tup h a => .tup (h.elim (fun h => .inl (h.elim (fun h => .inl (s _ _ h)) fun ⟨o, h⟩ => .inr ⟨o, s _ _ h⟩)) fun h => .inr h) (DpAll.same s a)
theorem DpAll.same {K : PySem.W.Frag} {H H' : Hp} (s : Same H H') : ∀ {vs : List V} {ds : List PyData}, DpAll K H vs ds → DpAll K H' vs ds
  | _, _, .nil => .nil
  | _, _, .cons a b => .cons (Dp.same s a) (DpAll.same s b)
end
theorem sqT_same {K : PySem.W.Frag} {a : Addr} {xs : List V} {H H' : Hp} (h : SqT K H a xs) (s : Same H H') : SqT K H' a xs :=
  h.elim (fun h => .inl (h.elim (fun h => .inl (s _ _ h)) fun ⟨o, h⟩ => .inr ⟨o, s _ _ h⟩)) fun h => .inr h
section
variable {K : PySem.W.Frag} {H : Hp}
theorem dp_list {v : V} {ds : List PyData} (h : Dp K H v (.list ds)) : ∃ a xs, v = .ref a ∧ SqL K H a xs ∧ DpAll K H xs ds := by
  cases h with
  | lst h a => exact ⟨_, _, rfl, h, a⟩
theorem dp_tuple {v : V} {ds : List PyData} (h : Dp K H v (.tuple ds)) : ∃ a xs, v = .ref a ∧ SqT K H a xs ∧ DpAll K H xs ds := by
  cases h with
  | tup h a => exact ⟨_, _, rfl, h, a⟩
theorem dp_int {v : V} {n : Int} (h : Dp K H v (.int n)) : v = .int n := by cases h; rfl
theorem dp_bool {v : V} {b : Bool} (h : Dp K H v (.bool b)) : v = .bl b := by cases h; rfl
theorem dp_str {v : V} {x : Str} (h : Dp K H v (.str x)) : v = .str x := by cases h; rfl
theorem dpAll_len : ∀ {xs : List V} {ds : List PyData}, DpAll K H xs ds → xs.length = ds.length
  | _, _, .nil => rfl
  | _, _, .cons _ t => by rw [List.length_cons, List.length_cons, dpAll_len t]
theorem dpAll_get : ∀ {xs : List V} {ds : List PyData} {i : Nat} {d : PyData}, DpAll K H xs ds → ds[i]? = some d → ∃ x, xs[i]? = some x ∧ Dp K H x d
  | _, _, _, _, .nil, e => by simp at e
  | _, _, 0, _, .cons h _, e => by simp at e; subst e; exact ⟨_, rfl, h⟩
  | _, _, i + 1, d, .cons _ t, e => by
    obtain ⟨x, h1, h2⟩ := dpAll_get (i := i) (d := d) t (by simpa using e)
    exact ⟨x, by simpa using h1, h2⟩
theorem dpAll_back : ∀ {xs : List V} {ds : List PyData} {i : Nat} {x : V}, DpAll K H xs ds → xs[i]? = some x → ∃ d, ds[i]? = some d ∧ Dp K H x d
  | _, _, _, _, .nil, e => by simp at e
  | _, _, 0, _, .cons h _, e => by simp at e; subst e; exact ⟨_, rfl, h⟩
  | _, _, i + 1, x, .cons _ t, e => by
    obtain ⟨d, h1, h2⟩ := dpAll_back (i := i) (x := x) t (by simpa using e)
    exact ⟨d, by simpa using h1, h2⟩
theorem dpAll_app : ∀ {xs ys : List V} {ds es : List PyData}, DpAll K H xs ds → DpAll K H ys es → DpAll K H (xs ++ ys) (ds ++ es)
  | _, _, _, _, .nil, b => b
  | _, _, _, _, .cons h t, b => .cons h (dpAll_app t b)
theorem dpAll_rep {x : V} {d : PyData} (h : Dp K H x d) : ∀ n, DpAll K H (List.replicate n x) (List.replicate n d)
  | 0 => .nil
  | n + 1 => .cons h (dpAll_rep h n)
/-- by places -/
theorem dpAll_of : ∀ {xs : List V} {ds : List PyData}, xs.length = ds.length → (∀ (i : Nat) (x : V) (d : PyData), xs[i]? = some x → ds[i]? = some d → Dp K H x d) → DpAll K H xs ds
  | [], [], _, _ => .nil
  | x :: xs, d :: ds, hl, h => .cons (h 0 x d rfl rfl) (dpAll_of (by simpa using hl) fun i x' d' h1 h2 => h (i + 1) x' d' (by simpa using h1) (by simpa using h2))
def dN (l : List Nat) : List PyData := l.map fun (n : Nat) => PyData.int (n : Int)
def dB (l : List Bool) : List PyData := l.map PyData.bool
theorem dpAll_nV : ∀ l : List Nat, DpAll K H (nV l) (dN l)
  | [] => .nil
  | n :: l => .cons (.int _) (dpAll_nV l)
theorem dpAll_nats : ∀ {l : List Nat} {xs : List V}, DpAll K H xs (dN l) → xs = nV l
  | [], _, .nil => rfl
  | n :: l, _, .cons h t => by rw [dp_int h, dpAll_nats t]; rfl
theorem dpAll_bools : ∀ {l : List Bool} {xs : List V}, DpAll K H xs (dB l) → xs = l.map V.bl
  | [], _, .nil => rfl
  | n :: l, _, .cons h t => by rw [dp_bool h, dpAll_bools t]; rfl
theorem dpAll_texts : ∀ {l : List (List Nat)} {xs : List V}, DpAll K H xs (dTx l) → xs = l.map tx
  | [], _, .nil => rfl
  | n :: l, _, .cons h t => by rw [dp_str h, dpAll_texts t]; rfl
end
/-! ### lists or tuples -/
/-- a list or a tuple with these items -/
def Sq (K : PySem.W.Frag) (H : Hp) (v : V) (xs : List V) : Prop := ∃ a, v = .ref a ∧ (SqL K H a xs ∨ SqT K H a xs)
theorem Sq.same {K : PySem.W.Frag} {H H' : Hp} {v : V} {xs : List V} (h : Sq K H v xs) (s : Same H H') : Sq K H' v xs := by
  obtain ⟨a, e, h⟩ := h
  exact ⟨a, e, h.elim (fun h => .inl (sq_same h s)) fun h => .inr (sqT_same h s)⟩
theorem sq_list {K : PySem.W.Frag} {H : Hp} {a : Addr} {xs : List V} (h : SqL K H a xs) : Sq K H (.ref a) xs := ⟨a, rfl, .inl h⟩
theorem sq_tuple {K : PySem.W.Frag} {H : Hp} {a : Addr} {xs : List V} (h : SqT K H a xs) : Sq K H (.ref a) xs := ⟨a, rfl, .inr h⟩
/-- the iterator of a list or a tuple -/
def iSq (K : PySem.W.Frag) (tl : TE) : TI := fun σ H R => tl σ H fun x H1 => ∃ xs H0, Sq K H0 x xs ∧ Same H0 H1 ∧ ∀ J G, Walk J xs.length G (YAt xs) → (∀ H', Same H0 H' → G H') → R J H1
theorem pi_sq {X : Cx} {tg l : Expr} {tl : TE} (hl : PE X l tl) : PI X tg l (iSq X.K tl) := by
  refine ⟨fun pins s σ H R I h => ?_⟩
  refine thn (hl.run pins s σ H _ I h) fun v s1 ⟨x, H1, I1, r1, q1⟩ => ?_
  obtain ⟨xs, H0, ⟨a, e, hq⟩, sm, q⟩ := q1
  subst e
  cases r1
  have fresh : ∀ b, b ∈ [s1.heap.objs.size] → FpOk X pins H1 b := fun b hb => by
    have e : b = s1.heap.objs.size := by simpa using hb
    subst e
    exact I1.fpOk (Nat.le_refl _) (I1.hok.fresh (Nat.le_refl _))
  rcases hq with hq | hq
  · obtain ⟨its, rv, p, hz⟩ := I1.list (sq_same hq sm)
    refine wpAny_pyIter_list p.isList ?_
    exact ⟨s1.heap.objs.size, [s1.heap.objs.size], _, _, H1, rfl, I1.kept (t' := s1.toks) fun b o e => Heap.get?_push_of_some _ e, turn_list a _, ⟨_, Heap.get?_push_size _ rfl, rfl, rfl⟩, fresh, q _ _ walk_list fun H' s' => sq_same hq s'⟩
  · obtain ⟨its, rv, p, hz⟩ := I1.tuple (sqT_same hq sm)
    refine wpAny_pyIter_tuple p ?_
    exact ⟨s1.heap.objs.size, [s1.heap.objs.size], _, _, H1, rfl, I1.kept (t' := s1.toks) fun b o e => Heap.get?_push_of_some _ e, turn_tuple a _, ⟨_, Heap.get?_push_size _ rfl, rfl, rfl⟩, fresh, q _ _ walk_tup fun H' s' => sqT_same hq s'⟩
/-- as what zip or enumerate walks -/
theorem sq_src {K : PySem.W.Frag} {H : Hp} {v : V} {xs : List V} (h : Sq K H v xs) : ∃ y : Src, v = y.val ∧ ∀ H', Same H H' → y.has K H' xs := by
  obtain ⟨a, rfl, h | h⟩ := h
  · exact ⟨.L a, rfl, fun H' s => sq_same h s⟩
  · exact ⟨.T a, rfl, fun H' s => sqT_same h s⟩
theorem tx_src {K : PySem.W.Frag} (l : List Nat) : ∃ y : Src, tx l = y.val ∧ ∀ H', y.has K H' (l.map fun c => tx [c]) := by
  refine ⟨.S (tS l), rfl, fun H' => ?_⟩
  show l.map _ = (tS l).cps.toList.map _
  simp [tS, tx]
section
variable {X : Cx}
/-- x[i] of either -/
theorem ix_sq : IxR X (fun x y H Q => ∃ xs i v, Sq X.K H x xs ∧ y = .int i ∧ atI xs i = some v ∧ Q v H) := by
  intro value slice pins s σ H x y v u Q I rx ry h hs
  obtain ⟨xs, i, w, ⟨a, rfl, h⟩, rfl, hat, q⟩ := h
  rcases h with h | h
  · exact ix_list value slice pins s σ H _ _ v u Q I rx ry ⟨a, xs, i, w, rfl, rfl, h, hat, q⟩ hs
  · exact ix_tup value slice pins s σ H _ _ v u Q I rx ry ⟨a, xs, i, w, rfl, rfl, h, hat, q⟩ hs
/-- text.index(letter) -/
theorem mt_indexT : MtR X "str.index" (fun x xs H Q => ∃ (l : List Nat) (c : Nat), x = tx l ∧ xs = [tx [c]] ∧ c ∈ l ∧ Q (.int ((l.idxOf c : Nat) : Int)) H) := by
  intro pins s σ H x xs v us Q I rx r h
  obtain ⟨l, c, rfl, rfl, hc, q⟩ := h
  rcases StrLaws.occ_head (tS l) (tS [c]) 1 (Nat.le_refl 1) with ⟨_, hn⟩ | ⟨i, rest, ho, hat, hn⟩
  · obtain ⟨j, hj⟩ := List.mem_iff_getElem?.mp hc
    exact absurd ((StrLaws.subAt_one (tS l) c j).mpr (by simpa [tS] using hj)) (hn j)
  · refine mt_sindex pins s σ H _ _ v us Q I rx r ⟨_, _, i, rest, rfl, rfl, ho, ?_⟩
    have h1 : l[i]? = some c := by
      have := (StrLaws.subAt_one (tS l) c i).mp hat
      simpa [tS] using this
    have h2 : ∀ m, m < i → l[m]? ≠ some c := fun m hm z => hn m hm ((StrLaws.subAt_one (tS l) c m).mpr (by simpa [tS] using z))
    have e : l.idxOf c = i := by
      obtain ⟨hi, e1⟩ := List.getElem?_eq_some_iff.mp h1
      have h3 : l.idxOf c < l.length := List.idxOf_lt_length_of_mem hc
      have h4 : l[l.idxOf c] = c := List.getElem_idxOf h3
      rcases Nat.lt_trichotomy (l.idxOf c) i with z | z | z
      · exact absurd (by rw [List.getElem?_eq_getElem h3, h4]) (h2 _ z)
      · exact z
      · exact absurd rfl (idx_first z h1)
    rw [← e] at *
    exact q
/-- numbers.index(n) -/
theorem mt_indexN : MtR X "list.index" (fun x xs H Q => ∃ (a : Addr) (l : List Nat) (n : Nat), x = .ref a ∧ xs = [.int (n : Int)] ∧ SqL X.K H a (nV l) ∧ n ∈ l ∧ Q (.int ((l.idxOf n : Nat) : Int)) H) := by
  intro pins s σ H x xs v us Q I rx r h
  obtain ⟨a, l, n, rfl, rfl, hS, hn, q⟩ := h
  have h3 : l.idxOf n < l.length := List.idxOf_lt_length_of_mem hn
  refine mt_index pins s σ H _ _ v us Q I rx r ⟨a, nV l, .int (n : Int), l.idxOf n, .int (n : Int), rfl, rfl, hS, rfl, nV_flat l, nV_get ?_, ?_, fun m z hm hz => ?_, q⟩
  · rw [List.getElem?_eq_getElem h3, List.getElem_idxOf h3]
  · rw [eqV_int]; exact decide_eq_true rfl
  · obtain ⟨k, hk, rfl⟩ := nV_inv hz
    rw [eqV_int]
    exact decide_eq_false (idx_first hm hk)
/-- n in numbers -/
theorem op_inN : OpR X (compareOp .In) (fun x y H Q => ∃ (l : List Nat) (n : Nat), x = .int (n : Int) ∧ Sq X.K H y (nV l) ∧ Q (.bl (decide (n ∈ l))) H) := by
  intro pins s σ H x y v u Q I rx ry h
  obtain ⟨l, n, rfl, ⟨a, rfl, hS⟩, q⟩ := h
  exact op_in_seq pins s σ H _ _ v u Q I rx ry ⟨a, nV l, rfl, hS, rfl, nV_flat l, by rw [nV_in]; exact q⟩
theorem op_notInN : OpR X (compareOp .NotIn) (fun x y H Q => ∃ (l : List Nat) (n : Nat), x = .int (n : Int) ∧ Sq X.K H y (nV l) ∧ Q (.bl (!decide (n ∈ l))) H) := by
  intro pins s σ H x y v u Q I rx ry h
  obtain ⟨l, n, rfl, ⟨a, rfl, hS⟩, q⟩ := h
  exact op_notIn_seq pins s σ H _ _ v u Q I rx ry ⟨a, nV l, rfl, hS, rfl, nV_flat l, by rw [nV_in]; exact q⟩
end
/-! ### weights -/
structure Wt (d : PyData) (w k : Nat) : Prop where
  s : d.showable = true
  l : d.leavesShort 10 = true
  c : d.canLay0 = true
  w : d.weight ≤ w
  p : d.depth ≤ k
theorem Wt.shw {d : PyData} {w k : Nat} (h : Wt d w k) (hw : w ≤ 1048576) (hk : k ≤ 50) : Shw d :=
  ⟨h.s, PyData.shown_fits (B := 10) (by decide) (by decide) h.l (Nat.le_trans h.w (Nat.le_trans hw (by decide))), Nat.le_trans h.p hk⟩
theorem Wt.shaped {d : PyData} {w k : Nat} (h : Wt d w k) (hk : k ≤ 64) : SeqAt.shaped d = true := by
  show (d.canLay0 && decide (d.depth ≤ 64)) = true
  rw [h.c, decide_eq_true (Nat.le_trans h.p hk)]
  rfl
theorem Wt.mono {d : PyData} {w k w' k' : Nat} (h : Wt d w k) (hw : w ≤ w') (hk : k ≤ k') : Wt d w' k' := ⟨h.s, h.l, h.c, Nat.le_trans h.w hw, Nat.le_trans h.p hk⟩
theorem wt_all {w k : Nat} : ∀ {ds : List PyData}, (∀ d ∈ ds, Wt d w k) → PyData.showableAll ds = true ∧ PyData.leavesShortAll 10 ds = true ∧ PyData.canLayAll0 ds = true ∧ PyData.weightAll ds ≤ (w + 1) * ds.length ∧ PyData.depthAll ds ≤ k
  | [], _ => ⟨rfl, rfl, rfl, Nat.zero_le _, Nat.zero_le _⟩
  | d :: ds, h => by
    have h1 := h d List.mem_cons_self
    obtain ⟨a, b, c, e, f⟩ := wt_all (ds := ds) fun x hx => h x (List.mem_cons_of_mem _ hx)
    refine ⟨?_, ?_, ?_, ?_, ?_⟩
    · show (PyData.showable d && PyData.showableAll ds) = true
      rw [h1.s, a]; rfl
    · show (PyData.leavesShort 10 d && PyData.leavesShortAll 10 ds) = true
      rw [h1.l, b]; rfl
    · show (PyData.canLay0 d && PyData.canLayAll0 ds) = true
      rw [h1.c, c]; rfl
    · show PyData.weight d + 1 + PyData.weightAll ds ≤ _
      have := h1.w
      rw [List.length_cons, Nat.mul_succ]
      omega
    · show max (PyData.depth d) (PyData.depthAll ds) ≤ k
      exact Nat.max_le.mpr ⟨h1.p, f⟩
theorem Wt.list {w k n : Nat} {ds : List PyData} (h : ∀ d ∈ ds, Wt d w k) (hn : ds.length ≤ n) : Wt (.list ds) ((w + 1) * n) (k + 1) := by
  obtain ⟨a, b, c, e, f⟩ := wt_all h
  have hm : (w + 1) * ds.length ≤ (w + 1) * n := Nat.mul_le_mul_left _ hn
  exact ⟨by simpa only [PyData.showable] using a, by simpa only [PyData.leavesShort] using b, by simpa only [PyData.canLay0] using c, by simp only [PyData.weight]; omega, by simp only [PyData.depth]; omega⟩
theorem Wt.tuple {w k n : Nat} {ds : List PyData} (h : ∀ d ∈ ds, Wt d w k) (hn : ds.length ≤ n) : Wt (.tuple ds) ((w + 1) * n) (k + 1) := by
  obtain ⟨a, b, c, e, f⟩ := wt_all h
  have hm : (w + 1) * ds.length ≤ (w + 1) * n := Nat.mul_le_mul_left _ hn
  exact ⟨by simpa only [PyData.showable] using a, by simpa only [PyData.leavesShort] using b, by simpa only [PyData.canLay0] using c, by simp only [PyData.weight]; omega, by simp only [PyData.depth]; omega⟩
theorem Wt.non : Wt .none 0 0 := ⟨rfl, rfl, rfl, by simp [PyData.weight], by simp [PyData.depth]⟩
theorem Wt.bool (b : Bool) : Wt (.bool b) 0 0 := ⟨rfl, rfl, rfl, by simp [PyData.weight], by simp [PyData.depth]⟩
theorem Wt.int {n : Int} (h : n.natAbs < 1000000000) : Wt (.int n) 30 0 := by
  have hlog : n.natAbs.log2 < 30 := by
    by_cases e : n.natAbs = 0
    · rw [e]; decide
    · exact (Nat.log2_lt e).mpr (Nat.lt_trans h (by decide))
  refine ⟨?_, ?_, rfl, ?_, by simp [PyData.depth]⟩
  · simp only [PyData.showable, decide_eq_true_eq]; omega
  · simp only [PyData.leavesShort, decide_eq_true_eq]
    have e := int_text_length_le10 (a := n) (k := 9) (by decide) h
    simp only [PyData.shown]
    rw [PySem.ofString_length]
    omega
  · simp only [PyData.weight]; split <;> omega
theorem Wt.nat {n : Nat} (h : n < 1000000000) : Wt (.int (n : Int)) 30 0 := Wt.int (by omega)
theorem Wt.text {l : List Nat} {n : Nat} (h : ∀ c ∈ l, c < 1114112) (hn : l.length ≤ n) : Wt (.str (tS l)) n 0 := by
  refine ⟨rfl, ?_, ?_, by simpa [PyData.weight, tS] using hn, by simp [PyData.depth]⟩
  · simp only [PyData.leavesShort, List.all_eq_true, decide_eq_true_eq]
    intro c hc
    have := h c (by simpa [tS] using hc)
    have e : 16 ^ 8 = 4294967296 := by decide
    omega
  · show PyData.strOk (tS l) = true
    unfold PyData.strOk
    rw [Array.all_eq_true_iff_forall_mem]
    intro c hc
    exact decide_eq_true (h c (by simpa [tS] using hc))
theorem Wt.nats {l : List Nat} {n : Nat} (h : ∀ c ∈ l, c < 1000000000) (hn : l.length ≤ n) : Wt (.list (dN l)) (31 * n) 1 := by
  refine Wt.list (w := 30) (k := 0) (fun d hd => ?_) (by unfold dN; rw [List.length_map]; exact hn)
  obtain ⟨c, hc, rfl⟩ := List.mem_map.mp hd
  exact Wt.nat (h c hc)
theorem Wt.natsT {l : List Nat} {n : Nat} (h : ∀ c ∈ l, c < 1000000000) (hn : l.length ≤ n) : Wt (.tuple (dN l)) (31 * n) 1 := by
  refine Wt.tuple (w := 30) (k := 0) (fun d hd => ?_) (by unfold dN; rw [List.length_map]; exact hn)
  obtain ⟨c, hc, rfl⟩ := List.mem_map.mp hd
  exact Wt.nat (h c hc)
theorem Wt.bools {l : List Bool} {n : Nat} (hn : l.length ≤ n) : Wt (.list (dB l)) n 1 := by
  have := Wt.list (w := 0) (k := 0) (n := n) (ds := dB l) (fun d hd => ?_) (by unfold dB; rw [List.length_map]; exact hn)
  · exact this.mono (by omega) (Nat.le_refl _)
  · obtain ⟨c, hc, rfl⟩ := List.mem_map.mp hd
    exact Wt.bool c
theorem Wt.boolsT {l : List Bool} {n : Nat} (hn : l.length ≤ n) : Wt (.tuple (dB l)) n 1 := by
  have := Wt.tuple (w := 0) (k := 0) (n := n) (ds := dB l) (fun d hd => ?_) (by unfold dB; rw [List.length_map]; exact hn)
  · exact this.mono (by omega) (Nat.le_refl _)
  · obtain ⟨c, hc, rfl⟩ := List.mem_map.mp hd
    exact Wt.bool c
/-! ### == of data -/
theorem eqv_map {α : Type} [DecidableEq α] (f : α → PyData) (hf : ∀ a b, PyData.eqv (f a) (f b) = decide (a = b)) : ∀ l m : List α, PyData.eqvAll (l.map f) (m.map f) = decide (l = m)
  | [], [] => by simp [PyData.eqvAll]
  | [], b :: m => by simp [PyData.eqvAll]
  | a :: l, [] => by simp [PyData.eqvAll]
  | a :: l, b :: m => by
    show (PyData.eqv (f a) (f b) && PyData.eqvAll (l.map f) (m.map f)) = _
    rw [hf, eqv_map f hf l m]
    by_cases h1 : a = b
    · by_cases h2 : l = m
      · subst h1 h2; simp
      · simp [h2]
    · simp [h1]
theorem eqv_dN (l m : List Nat) : PyData.eqvAll (dN l) (dN m) = decide (l = m) := eqv_map _ (fun a b => by
  show ((a : Int) == (b : Int)) = _
  by_cases h : a = b
  · subst h; simp
  · rw [decide_eq_false h]; exact beq_eq_false_iff_ne.mpr (by omega)) l m
theorem eqv_dB (l m : List Bool) : PyData.eqvAll (dB l) (dB m) = decide (l = m) := eqv_map _ (fun a b => by
  show (a == b) = _
  by_cases h : a = b
  · subst h; simp
  · rw [decide_eq_false h]; exact beq_eq_false_iff_ne.mpr h) l m
end L3
/-! Methods and classes called by keywords alone. -/
namespace L3
open PySem PySem.Spec PyProof.Rows L2
def tMethK (C : Addr) (m : Str) (sp : Sp) (gV : List V → List V → List V) (E : XK) (ta : TE) (tk : TA) : TE := fun σ H Q => ta σ H fun x H1 => ∃ a dx fs, x = .ref a ∧ H1 a = some (.ins C dx fs) ∧ fs.lookup m = none ∧
  tk σ H1 fun zs H2 => sp (gV [.ref a] zs) H2 Q E
section
variable {X : Cx} {CX : CXT} {k : Nat} {C f : Addr} {fd : FuncData} {ps ks : List Str} {sp : Sp} {E : XK} {m : Str} {apos pos : Pos} {o : Expr} {kws : List Keyword} {ta : TE} {tk : TA} {g : List Value → List Value → List Value} {gV : List V → List V → List V}
/-- o.m(k = v, ..) -/
theorem pe_methK {pl : Sem Bool} (he : PE X o ta) (c : Cls X.K C) (hm : Meth X.K C m f) (F : FnOk X.prog X.w X.K X.mg X.base CX k f fd ps sp) (hr : Room k X.A) (hb : KBinds X.K fd ps ks g gV) (hx : Passes CX X E)
    (hkw : PK X kws tk) (hall : (backToKw pos (keywordEach kws X.env)).all (·.1.isSome) = true := by rfl) (hks : (backToKw pos (keywordEach kws X.env)).filterMap (·.1) = ks := by rfl)
    (hpl : ((backTo pos (starEach [] X.env)).any (·.1) || (backToKw pos (keywordEach kws X.env)).any (·.1.isNone)) = false := by rfl)
    (ht : eval (.Call (.Attribute o m apos) [] kws pos) X.env = (do
      let ov ← eval o X.env
      standAt apos.atName
      let (f, first) ← holding [ov] (getMethod ov m pl)
      callWith pos f first (backTo pos (starEach [] X.env)) (backToKw pos (keywordEach kws X.env))) := by rfl) :
    PE X (.Call (.Attribute o m apos) [] kws pos) (tMethK C m sp gV E ta tk) := by
  refine ⟨fun pins s σ H Q I h => ?_⟩
  refine PySem.W.methodCall_KW (pl := pl) (thn (he.run pins s σ H _ I h) fun u s1 ⟨x, H1, I1, rx, a, dx, fs, ex, ea, l, q⟩ => ?_) ht
  subst ex
  obtain rfl : u = Value.ref a := rx
  refine getmeth_ok I1 ea c hm l ?_
  refine PySem.W.callWith_KW0 (first := [.ref a]) (h₀ := X.base) I.ok.mod.kin hm.kp hall (thn (hkw.run pos pins s1 σ H1 _ I1 q) fun ws s2 ⟨zs, H2, I2, rz, q2⟩ => ⟨I2.kIn, ?_⟩) hpl
  rw [hks]
  exact run_fnk (us := [.ref a]) (vs := [.ref a]) F hr hb hx I2 (.cons rfl .nil) rz q2
end
/-! ### how keywords are bound -/
def mk1 {α : Type} : List α → List α → List α
  | [s], [w] => [s, w]
  | _, _ => []
def mk2 {α : Type} : List α → List α → List α
  | [s], [w, v] => [s, v, w]
  | _, _ => []
def mk3 {α : Type} : List α → List α → List α
  | [s], [w, v, u] => [s, u, v, w]
  | _, _ => []
theorem paired1 {vs : List V} {us : List Value} {x : Value} (r : Vals vs us) (h : us = [x]) : ∃ y, vs = [y] ∧ RelV y x := by
  subst h
  cases r with
  | cons a t => cases t; exact ⟨_, rfl, a⟩
theorem mk1_rel {vs : List V} {us : List Value} {zs : List V} {ws : List Value} (r : Vals vs us) (t : Vals zs ws) : Vals (mk1 vs zs) (mk1 us ws) := by
  match vs, us, zs, ws, r, t with
  | _, _, _, _, .nil, .nil => exact .nil
  | _, _, _, _, .nil, .cons _ _ => exact .nil
  | _, _, _, _, .cons a .nil, .nil => exact .nil
  | _, _, _, _, .cons a .nil, .cons b .nil => exact .cons a (.cons b .nil)
  | _, _, _, _, .cons a .nil, .cons b (.cons _ _) => exact .nil
  | _, _, _, _, .cons a (.cons _ _), .nil => exact .nil
  | _, _, _, _, .cons a (.cons _ _), .cons b _ => exact .nil
theorem mk2_rel {vs : List V} {us : List Value} {zs : List V} {ws : List Value} (r : Vals vs us) (t : Vals zs ws) : Vals (mk2 vs zs) (mk2 us ws) := by
  match vs, us, zs, ws, r, t with
  | _, _, _, _, .nil, .nil => exact .nil
  | _, _, _, _, .nil, .cons _ _ => exact .nil
  | _, _, _, _, .cons a .nil, .nil => exact .nil
  | _, _, _, _, .cons a .nil, .cons b .nil => exact .nil
  | _, _, _, _, .cons a .nil, .cons b (.cons c .nil) => exact .cons a (.cons c (.cons b .nil))
  | _, _, _, _, .cons a .nil, .cons b (.cons c (.cons _ _)) => exact .nil
  | _, _, _, _, .cons a (.cons _ _), .nil => exact .nil
  | _, _, _, _, .cons a (.cons _ _), .cons b _ => exact .nil
theorem mk3_rel {vs : List V} {us : List Value} {zs : List V} {ws : List Value} (r : Vals vs us) (t : Vals zs ws) : Vals (mk3 vs zs) (mk3 us ws) := by
  match vs, us, zs, ws, r, t with
  | _, _, _, _, .nil, .nil => exact .nil
  | _, _, _, _, .nil, .cons _ _ => exact .nil
  | _, _, _, _, .cons a .nil, .nil => exact .nil
  | _, _, _, _, .cons a .nil, .cons b .nil => exact .nil
  | _, _, _, _, .cons a .nil, .cons b (.cons c .nil) => exact .nil
  | _, _, _, _, .cons a .nil, .cons b (.cons c (.cons d .nil)) => exact .cons a (.cons d (.cons c (.cons b .nil)))
  | _, _, _, _, .cons a .nil, .cons b (.cons c (.cons d (.cons _ _))) => exact .nil
  | _, _, _, _, .cons a (.cons _ _), .nil => exact .nil
  | _, _, _, _, .cons a (.cons _ _), .cons b _ => exact .nil
section
variable {K : PySem.W.Frag} {x qual n m r : Str} {st : Stmt} {f : Addr} {fd : FuncData}
/-- o.x(n = v) -/
theorem kbm1 (F : Fun K x qual st f fd)
    (h : ∀ (kV doc pm : Value) (an : Option Addr) (cdv ct s w : Value), bindArgs (PySem.W.fnOf x qual (defArgs st) (defBody st) (defScope st) .none kV doc pm an cdv ct) ⟨[s], [(n, w)]⟩ = pure [(("self" : Str), s), (n, w)]) : KBinds K fd ["self", n] [n] mk1 mk1 := by
  refine ⟨fun s us ws X hl => ?_, mk1_rel⟩
  obtain ⟨oc, od, kV, doc, pm, an, cdv, ct, osl, rfl, lk, hcd⟩ := F.ex
  match us, ws, hl with
  | [u], [w], _ => exact .of_eq (h kV doc pm an cdv ct u w)
/-- o.x(m = w, n = v), the other way round -/
theorem kbm2 (F : Fun K x qual st f fd)
    (h : ∀ (kV doc pm : Value) (an : Option Addr) (cdv ct s w v : Value), bindArgs (PySem.W.fnOf x qual (defArgs st) (defBody st) (defScope st) .none kV doc pm an cdv ct) ⟨[s], [(m, w), (n, v)]⟩ = pure [(("self" : Str), s), (n, v), (m, w)]) : KBinds K fd ["self", n, m] [m, n] mk2 mk2 := by
  refine ⟨fun s us ws X hl => ?_, mk2_rel⟩
  obtain ⟨oc, od, kV, doc, pm, an, cdv, ct, osl, rfl, lk, hcd⟩ := F.ex
  match us, ws, hl with
  | [u], [w, v], _ => exact .of_eq (h kV doc pm an cdv ct u w v)
/-- C(r = w, m = v, n = u), the other way round -/
theorem kbn3 (F : Fun K x qual st f fd)
    (h : ∀ (kV doc pm : Value) (an : Option Addr) (cdv ct s w v u : Value), bindArgs (PySem.W.fnOf x qual (defArgs st) (defBody st) (defScope st) .none kV doc pm an cdv ct) ⟨[s], [(r, w), (m, v), (n, u)]⟩ = pure [(("self" : Str), s), (n, u), (m, v), (r, w)]) : KBn K fd ["self", n, m, r] 1 [r, m, n] mk3 mk3 := by
  refine ⟨fun s us ws X hl hw => ?_, mk3_rel⟩
  obtain ⟨oc, od, kV, doc, pm, an, cdv, ct, osl, rfl, lk, hcd⟩ := F.ex
  match us, ws, hl, hw with
  | [a], [w, v, u], _, _ => exact .of_eq (h kV doc pm an cdv ct a w v u)
end
end L3
/-! Comprehensions whose items are data in the heap. -/
namespace L3
open PySem PySem.Spec PyProof.Rows L2
/-- without what stands at D -/
def del (H : Hp) (D : Addr) : Hp := fun b => if b = D then none else H b
theorem del_upd (H : Hp) (D : Addr) (o : HO) : del (upd H D o) D = del H D := by
  funext b; unfold del upd
  by_cases h : b = D
  · rw [if_pos h, if_pos h]
  · rw [if_neg h, if_neg h, if_neg h]
theorem del_none {H : Hp} {D : Addr} (h : H D = none) : del H D = H := by
  funext b; unfold del
  by_cases e : b = D
  · rw [if_pos e, e, h]
  · rw [if_neg e]
theorem del_ne {H : Hp} {D b : Addr} (h : b ≠ D) : del H D b = H b := by unfold del; rw [if_neg h]
theorem del_same (H : Hp) (D : Addr) : Same (del H D) H := fun b o e => by
  unfold del at e
  by_cases h : b = D
  · rw [if_pos h] at e; cases e
  · rw [if_neg h] at e; exact e
theorem same_del {H H' : Hp} {D : Addr} (s : Same H H') (h : H D = none) : Same H (del H' D) := fun b o e => by
  rw [del_ne (ne_of_none e h)]; exact s b o e
theorem del_mono {H H' : Hp} (D : Addr) (s : Same H H') : Same (del H D) (del H' D) := fun b o e => by
  unfold del at e ⊢
  by_cases h : b = D
  · rw [if_pos h] at e; cases e
  · rw [if_neg h] at e ⊢; exact s b o e
/-- data does not look at instances -/
theorem sqL_del {K : PySem.W.Frag} {H : Hp} {x C dx a : Addr} {fs : List (Str × V)} {xs : List V} (hx : H x = some (.ins C dx fs)) (h : SqL K H a xs) : SqL K (del H x) a xs := by
  rcases h with (h | ⟨o, h⟩) | h
  · exact .inl (.inl (by rw [del_ne (ne_of h hx (by intro z; cases z))]; exact h))
  · exact .inl (.inr ⟨o, by rw [del_ne (ne_of h hx (by intro z; cases z))]; exact h⟩)
  · exact .inr h
theorem sqT_del {K : PySem.W.Frag} {H : Hp} {x C dx a : Addr} {fs : List (Str × V)} {xs : List V} (hx : H x = some (.ins C dx fs)) (h : SqT K H a xs) : SqT K (del H x) a xs := by
  rcases h with (h | ⟨o, h⟩) | h
  · exact .inl (.inl (by rw [del_ne (ne_of h hx (by intro z; cases z))]; exact h))
  · exact .inl (.inr ⟨o, by rw [del_ne (ne_of h hx (by intro z; cases z))]; exact h⟩)
  · exact .inr h
theorem sq_del {K : PySem.W.Frag} {H : Hp} {x C dx : Addr} {v : V} {fs : List (Str × V)} {xs : List V} (hx : H x = some (.ins C dx fs)) (h : Sq K H v xs) : Sq K (del H x) v xs := by
  obtain ⟨a, e, h⟩ := h
  exact ⟨a, e, h.elim (fun h => .inl (sqL_del hx h)) fun h => .inr (sqT_del hx h)⟩
mutual
theorem dp_del {K : PySem.W.Frag} {H : Hp} {x C dx : Addr} {fs : List (Str × V)} (hx : H x = some (.ins C dx fs)) : ∀ {v : V} {d : PyData}, Dp K H v d → Dp K (del H x) v d
  | _, _, .non => .non
  | _, _, .bl b => .bl b
  | _, _, .int i => .int i
  | _, _, .str x => .str x
  | _, _, .lst h a => .lst (sqL_del hx h) (dpAll_del hx a)
  | _, _, .tup h a => .tup (sqT_del hx h) (dpAll_del hx a)
theorem dpAll_del {K : PySem.W.Frag} {H : Hp} {x C dx : Addr} {fs : List (Str × V)} (hx : H x = some (.ins C dx fs)) : ∀ {vs : List V} {ds : List PyData}, DpAll K H vs ds → DpAll K (del H x) vs ds
  | _, _, .nil => .nil
  | _, _, .cons a b => .cons (dp_del hx a) (dpAll_del hx b)
end
theorem del_at (H : Hp) (D : Addr) : del H D D = none := by unfold del; rw [if_pos rfl]
/-- a comprehension: Pv of the list so far and the heap without it -/
theorem lc_dp {J : It} {n : Nat} {G : Hp → Prop} {Y : Nat → Hp → V → Hp → Prop} (w : Walk J n G Y) {g : TG} {tt : TT} {te : TE} {vs : List Nat} {σ : L2.St} {H1 : Hp} {D : Addr} {Qd : Hp → Prop} (Pv : Nat → List V → Hp → Prop) (hz : n ≤ sizeLine) (hA : ∀ i acc H, Pv i acc H → acc.length ≤ i)
    (nD : H1 D = none) (h0 : Pv 0 [] H1) (hG : ∀ i acc H, Pv i acc (del H D) → H D = some (.lst acc) → G H)
    (hs : ∀ i x H H' acc (C : VK) (N : Hp → Prop), i < n → Pv i acc (del H D) → H D = some (.lst acc) → Y i H x H' → (∀ v H4, H4 D = some (.lst acc) → Pv (i + 1) (acc ++ [v]) (del H4 D) → C v H4) → (∀ H3, H3 D = some (.lst acc) → Pv (i + 1) acc (del H3 D) → N H3) →
      g x (wipe σ vs) H' fun σ2 H2 => wipe σ2 vs = wipe σ vs ∧ tt σ2 H2 fun b H3 => if b = true then te σ2 H3 C else N H3)
    (hd : ∀ H xs, H D = some (.lst xs) → Pv n xs (del H D) → Qd H) :
    ∃ W : Nat → Nat → Hp → Prop, (∃ m, W 0 m (upd H1 D (.lst []))) ∧ ∀ i m H, W i m H →
      (J.stop i H ∧ Qd H) ∨ (J.go i H ∧ ∃ Nx : Hp → Prop, (∀ H', Nx H' → ∃ m', m' < m ∧ W (i + 1) m' H') ∧ ∀ x H', J.yld i H x H' → g x (wipe σ vs) H' fun σ2 H2 => wipe σ2 vs = wipe σ vs ∧ tt σ2 H2 fun b H3 =>
        if b = true then te σ2 H3 fun y H4 => ∃ acc, H4 D = some (.lst acc) ∧ acc.length < sizeLine ∧ Nx (upd H4 D (.lst (acc ++ [y]))) else Nx H3) := by
  refine lc_it w (fun i H => ∃ acc, H D = some (.lst acc) ∧ Pv i acc (del H D)) ⟨[], upd_same, by rw [del_upd, del_none nD]; exact h0⟩ (fun i H _ p => by obtain ⟨acc, h1, h2⟩ := p; exact hG i acc H h2 h1) (fun i x H H' hi p y => ?_) fun H p => ?_
  · obtain ⟨acc, hD, ha⟩ := p
    refine hs i x H H' acc _ _ hi ha hD y (fun v H4 d4 a4 => ⟨acc, d4, ?_, _, upd_same, by rw [del_upd]; exact a4⟩) (fun H3 d3 a3 => ⟨acc, d3, a3⟩)
    have := hA i acc _ ha
    omega
  · obtain ⟨acc, hD, ha⟩ := p
    exact hd H acc hD ha
/-- .. of data, one item a turn, where all else stays -/
theorem lc_data {K : PySem.W.Frag} {J : It} {n : Nat} {G : Hp → Prop} {Y : Nat → Hp → V → Hp → Prop} (w : Walk J n G Y) {g : TG} {te : TE} {vs : List Nat} {σ : L2.St} {H1 : Hp} {D : Addr} {Qd : Hp → Prop} (ds : List PyData) (hn : ds.length = n) (hz : n ≤ sizeLine)
    (nD : H1 D = none) (hG : ∀ H, Same H1 H → G H)
    (hs : ∀ i x H H' acc d (C : VK), i < n → Same H1 H → H D = some (.lst acc) → Y i H x H' → ds[i]? = some d → (∀ v H4, Same H H4 → Dp K (del H4 D) v d → C v H4) → g x (wipe σ vs) H' fun σ2 H2 => wipe σ2 vs = wipe σ vs ∧ te σ2 H2 C)
    (hgm : ∀ x σ H (Q Q' : L2.St → Hp → Prop), (∀ σ2 H2, Q σ2 H2 → Q' σ2 H2) → g x σ H Q → g x σ H Q')
    (hd : ∀ H xs, Same H1 H → H D = some (.lst xs) → DpAll K (del H D) xs ds → Qd H) :
    ∃ W : Nat → Nat → Hp → Prop, (∃ m, W 0 m (upd H1 D (.lst []))) ∧ ∀ i m H, W i m H →
      (J.stop i H ∧ Qd H) ∨ (J.go i H ∧ ∃ Nx : Hp → Prop, (∀ H', Nx H' → ∃ m', m' < m ∧ W (i + 1) m' H') ∧ ∀ x H', J.yld i H x H' → g x (wipe σ vs) H' fun σ2 H2 => wipe σ2 vs = wipe σ vs ∧ tYes σ2 H2 fun b H3 =>
        if b = true then te σ2 H3 fun y H4 => ∃ acc, H4 D = some (.lst acc) ∧ acc.length < sizeLine ∧ Nx (upd H4 D (.lst (acc ++ [y]))) else Nx H3) := by
  refine lc_dp w (fun i acc H => Same H1 H ∧ DpAll K H acc (ds.take i)) hz (fun i acc H p => ?_) nD ⟨Same.refl _, .nil⟩ (fun i acc H p _ => hG H (p.1.trans (del_same _ _))) (fun i x H H' acc C N hi p hD y c nn => ?_) (fun H xs hD p => ?_)
  · rw [dpAll_len p.2, List.length_take]; omega
  · have hlt : i < ds.length := by omega
    refine hgm _ _ _ _ _ (fun σ2 H2 h => ⟨h.1, yes_te h.2⟩) (hs i x H H' acc ds[i] C hi (p.1.trans (del_same _ _)) hD y (List.getElem?_eq_getElem hlt) fun v H4 s4 d4 => ?_)
    have s5 := del_mono D s4
    refine c v H4 (s4 _ _ hD) ⟨p.1.trans s5, ?_⟩
    rw [List.take_add_one, List.getElem?_eq_getElem hlt]
    exact dpAll_app (DpAll.same s5 p.2) (.cons d4 .nil)
  · have e : ds.take n = ds := by rw [← hn]; exact List.take_length
    rw [e] at p
    exact hd H xs (p.1.trans (del_same _ _)) hD p.2
theorem gName_mono {i : Nat} : ∀ x σ H (Q Q' : L2.St → Hp → Prop), (∀ σ2 H2, Q σ2 H2 → Q' σ2 H2) → gName i x σ H Q → gName i x σ H Q' := fun _ _ _ _ _ h q => h _ _ q
end L3
/-! The rules with the written part told by name (within comprehensions). -/
namespace L3
open PySem PySem.Spec PyProof.Rows L2
section
variable {X : Cx} {K : PySem.W.Frag}
theorem ix_listK (h : X.K = K) : IxR X (rIxL K) := h ▸ ix_list
theorem ix_tupK (h : X.K = K) : IxR X (rIxT K) := h ▸ ix_tup
theorem ix_sqK (h : X.K = K) : IxR X (fun x y H Q => ∃ xs i v, Sq K H x xs ∧ y = .int i ∧ atI xs i = some v ∧ Q v H) := h ▸ ix_sq
theorem call_len_seqK (h : X.K = K) : CallR X (.builtin "len") (fun xs H Q => ∃ p ys, xs = [.ref p] ∧ (SqL K H p ys ∨ SqT K H p ys) ∧ Q (.int ys.length) H) := h ▸ call_len_seq
theorem call_list_ofK (h : X.K = K) : CallR X (.type "list") (fun xs H Q => ∃ p ys, xs = [.ref p] ∧ (SqL K H p ys ∨ SqT K H p ys) ∧ ∀ l, H l = none → Q (.ref l) (upd H l (.lst ys))) := h ▸ call_list_of
theorem call_tuple_ofK (h : X.K = K) : CallR X (.type "tuple") (fun xs H Q => ∃ p ys, xs = [.ref p] ∧ ((SqL K H p ys ∧ ∀ l, H l = none → Q (.ref l) (upd H l (.tup ys))) ∨ (SqT K H p ys ∧ Q (.ref p) H))) := h ▸ call_tuple_of
theorem op_inNK (h : X.K = K) : OpR X (compareOp .In) (fun x y H Q => ∃ (l : List Nat) (n : Nat), x = .int (n : Int) ∧ Sq K H y (nV l) ∧ Q (.bl (decide (n ∈ l))) H) := h ▸ op_inN
theorem op_notInNK (h : X.K = K) : OpR X (compareOp .NotIn) (fun x y H Q => ∃ (l : List Nat) (n : Nat), x = .int (n : Int) ∧ Sq K H y (nV l) ∧ Q (.bl (!decide (n ∈ l))) H) := h ▸ op_notInN
theorem op_eqDK (h : X.K = K) (hu : X.A.units + 64 < cLine) : OpR X (compareOp .Eq) (rEqD K) := h ▸ op_eqD hu
theorem op_neDK (h : X.K = K) (hu : X.A.units + 64 < cLine) : OpR X (compareOp .NotEq) (rNeD K) := h ▸ op_neD hu
theorem mt_indexNK (h : X.K = K) : MtR X "list.index" (fun x xs H Q => ∃ (a : Addr) (l : List Nat) (n : Nat), x = .ref a ∧ xs = [.int (n : Int)] ∧ SqL K H a (nV l) ∧ n ∈ l ∧ Q (.int ((l.idxOf n : Nat) : Int)) H) := h ▸ mt_indexN
theorem pi_listK {tg l : Expr} {tl : TE} (h : X.K = K) (hl : PE X l tl) : PI X tg l (iList K tl) := h ▸ pi_list hl
theorem pi_tupK {tg l : Expr} {tl : TE} (h : X.K = K) (hl : PE X l tl) : PI X tg l (iTup K tl) := h ▸ pi_tup hl
theorem pi_sqK {tg l : Expr} {tl : TE} (h : X.K = K) (hl : PE X l tl) : PI X tg l (iSq K tl) := h ▸ pi_sq hl
theorem pi_zipSK {e e2 : Expr} {ta : TA} {p pos tpos : Pos} {elts : List Expr} {kk : Nat} (h : X.K = K) (hg : Gl X "zip") (hm : X.mg "zip" = none) (ha : PA X [e, e2] ta)
    (hs : starEach [e, e2] X.env = (false, eval e X.env) :: starEach [e2] X.env := by rfl) (hpl : (backTo pos (starEach [e2] X.env)).any (·.1) = false := by rfl) :
    PI X (.Tuple elts kk tpos) (.Call (.Name "zip" p) [e, e2] [] pos) (iZipS K ta) := h ▸ pi_zipS hg hm ha hs hpl
theorem pi_enumSK {e : Expr} {ta : TA} {p pos tpos : Pos} {elts : List Expr} {kk : Nat} (h : X.K = K) (hg : Gl X "enumerate") (hm : X.mg "enumerate" = none) (ha : PA X [e] ta) (hs : starEach [e] X.env = [(false, eval e X.env)] := by rfl) :
    PI X (.Tuple elts kk tpos) (.Call (.Name "enumerate" p) [e] [] pos) (iEnumS K ta) := h ▸ pi_enumS hg hm ha hs
theorem pe_fldK {e : Expr} {f : Str} {pos : Pos} {ta : TE} (h : X.K = K) (he : PE X e ta) (hb : attributeBase e f X.env (eval e X.env) = eval e X.env) : PE X (.Attribute e f pos) (tFld K ta f) := h ▸ pe_fld he hb
theorem pe_conK {e : Expr} {f : Str} {pos : Pos} {ta : TE} (h : X.K = K) (he : PE X e ta) (hb : attributeBase e f X.env (eval e X.env) = eval e X.env) : PE X (.Attribute e f pos) (tCon K ta f) := h ▸ pe_con he hb
theorem pg_tupK {es : List Expr} {k : Nat} {pos : Pos} {t : TGs} {n : Nat} (h : X.K = K) (hc : X.calm = true) (hp : PGs X es t)
    (hn : (assignEach es X.env).length = n) (hst : (assignEach es X.env).findIdx? (·.1) = none := by rfl) : PG X (.Tuple es k pos) (gTup K n t) := h ▸ pg_tup hc hp hn hst
theorem call_reprDK {k : Nat} (h : X.K = K) (hr : Room k X.A) (hG : X.A.guards = some []) : CallR X (.builtin "repr") (rRepr K) := h ▸ call_reprD hr hG
theorem sl_listK (h : X.K = K) : SlR X (rSlL K) := h ▸ sl_list
theorem cr_sortSetTK {w : World} (h : X.w = w) (hc : X.calm = true) : CallR X (.builtin "sorted") (fun xs H Q => ∃ (a : Addr) (L : List (List Nat)), xs = [.ref a] ∧ H a = some (TSet w a L) ∧
    ∀ (L' : List (List Nat)) (p : Addr), L'.Perm L → L'.Pairwise (· < ·) → H p = none → Q (.ref p) (upd H p (.lst (L'.map tx)))) := h ▸ cr_sortSetT hc
theorem pe_bmk {T id : String} {name : Str} {o e : Expr} {es : List Expr} {apos cpos : Pos} {r : V → List V → Hp → VK → Prop} {to : TE} {t : TA} (h : X.K = K) (pa : PlainAttrs T) (slot : Slot T name id) (hty : typeOf (.builtin id) = pure (.type "method_descriptor")) (hm : MtR X id r) (ho : PE X o to) (ha : PA X (e :: es) t)
    (hbase : attributeBase o name X.env (eval o X.env) = eval o X.env := by rfl)
    (hfew : ((backTo cpos (starEach (e :: es) X.env)).all (fun x => !x.1) && (backToKw cpos (keywordEach [] X.env)).all (fun x => x.1.isSome)
      && decide ((e :: es).length + ([] : List Keyword).length + (if ([] : List Keyword).isEmpty then 0 else 1) < 30)) = true := by rfl)
    (hline : (apos.endLine == cpos.line) = true := by rfl) (hs : starEach (e :: es) X.env = (false, eval e X.env) :: starEach es X.env := by rfl) (hplain : (backTo cpos (starEach es X.env)).any (·.1) = false := by rfl) :
    PE X (.Call (.Attribute o name apos) (e :: es) [] cpos) (tBM K T r to t) := h ▸ pe_bm pa slot hty hm ho ha hbase hfew hline hs hplain
theorem pe_bm0k {T id : String} {name : Str} {o : Expr} {apos cpos : Pos} {r : V → List V → Hp → VK → Prop} {to : TE} (h : X.K = K) (pa : PlainAttrs T) (slot : Slot T name id) (hty : typeOf (.builtin id) = pure (.type "method_descriptor")) (hm : MtR X id r) (ho : PE X o to)
    (hbase : attributeBase o name X.env (eval o X.env) = eval o X.env := by rfl) (hline : (apos.endLine == cpos.line) = true := by rfl) : PE X (.Call (.Attribute o name apos) [] [] cpos) (tBM0 K T r to) := h ▸ pe_bm0 pa slot hty hm ho hbase hline
variable {C f : Addr} {fd : FuncData} {k : Nat} {sp : Sp} {y : Str}
theorem op_eqOwnK (h : X.K = K) (F : FnOkG X.prog X.w X.K X.mg X.base CX0 k f fd ["self", y] sp) (hr : Room k X.A) (hG : X.A.guards = some []) (hb : L2.Binds X.K fd ["self", y] []) (m : Meth X.K C "__eq__" f) :
    OpR X (compareOp .Eq) (fun o x H Q => ∃ a dx fs t, o = .ref a ∧ H a = some (.ins C dx fs) ∧ TyX K H x t ∧ PySem.W.notFirst K C t = true ∧ sp [.ref a, x] H (fun v H' => ∃ b : Bool, v = .bl b ∧ Q (.bl b) H') E0) := by
  subst h; exact op_eqOwn F hr hG hb m
theorem op_neOwnK (h : X.K = K) (F : FnOkG X.prog X.w X.K X.mg X.base CX0 k f fd ["self", y] sp) (hr : Room (k + 1) X.A) (hG : X.A.guards = some []) (hb : L2.Binds X.K fd ["self", y] []) (m : Meth X.K C "__eq__" f)
    (hm : PySem.W.mroIn X.K C (.type "object") = some true) (hne : PySem.W.findIn X.K (.ref C) "__ne__" = some (some (.builtin "object.__ne__"))) :
    OpR X (compareOp .NotEq) (fun o x H Q => ∃ a dx fs t, o = .ref a ∧ H a = some (.ins C dx fs) ∧ TyX K H x t ∧ PySem.W.notFirst K C t = true ∧ sp [.ref a, x] H (fun v H' => ∃ b : Bool, v = .bl b ∧ Q (.bl (!b)) H') E0) := by
  subst h; exact op_neOwn F hr hG hb m hm hne
end
end L3
/-! Own classes: ~o, o op o, o op= o by the class's own methods. -/
namespace L3
open PySem PySem.Spec PyProof.Rows L2
section
variable {X : Cx} {C f : Addr} {fd : FuncData} {k : Nat} {sp : Sp} {y : Str}
/-- ~o -/
theorem un_inv (F : FnOk X.prog X.w X.K X.mg X.base CX0 k f fd ["self"] sp) (hr : Room k X.A) (hb : L2.Binds X.K fd ["self"] []) (m : Meth X.K C "__invert__" f) :
    UnR X (unaryOp .Invert) (fun x H Q => ∃ a dx fs, x = .ref a ∧ H a = some (.ins C dx fs) ∧ sp [.ref a] H Q E0) := by
  intro pins s σ H x v Q I rx h
  obtain ⟨a, dx, fs, rfl, ha, h⟩ := h
  cases rx
  obtain ⟨mA, O, _⟩ := ins_get I.hok ha
  obtain ⟨od, J, _⟩ := O.look
  obtain ⟨mm, FF⟩ := I.fr
  refine PySem.W.ksp_inv FF I.ok.mod.kin J m.at_ m.fn ?_
  exact run_fn (vs := [.ref a]) (us := [.ref a]) F hr hb .nil pass0 I (.cons rfl .nil) (by simpa using h)
/-- the answer is an object -/
def refQ (Q : VK) : VK := fun v H => ∃ p : Addr, v = .ref p ∧ Q (.ref p) H
/-- o op o -/
theorem op_own {op : Operator} (F : FnOk X.prog X.w X.K X.mg X.base CX0 k f fd ["self", y] sp) (hr : Room k X.A) (hb : L2.Binds X.K fd ["self", y] []) (m : Meth X.K C (PySem.dunder op.info.2) f) (hc : PySem.W.selfFirst X.K C = true) :
    OpR X (binaryOp op) (fun x z H Q => ∃ a dx fs b dy gs, x = .ref a ∧ z = .ref b ∧ H a = some (.ins C dx fs) ∧ H b = some (.ins C dy gs) ∧ sp [.ref a, .ref b] H (refQ Q) E0) := by
  intro pins s σ H x z v u Q I rx rz h
  obtain ⟨a, dx, fs, b, dy, gs, rfl, rfl, ha, hb', h⟩ := h
  cases rx
  cases rz
  obtain ⟨mA, O, _⟩ := ins_get I.hok ha
  obtain ⟨od, J, _⟩ := O.look
  obtain ⟨mA', O', _⟩ := ins_get I.hok hb'
  obtain ⟨od', J', _⟩ := O'.look
  obtain ⟨mm, FF⟩ := I.fr
  refine PySem.W.binop_K FF I.ok.mod.kin J J'.type hc m.at_ m.fn ?_
  refine thn (run_fn (vs := [.ref a, .ref b]) (us := [.ref a, .ref b]) F hr hb .nil pass0 I (.cons rfl (.cons rfl .nil)) (by simpa using h)) fun r s' hq => ?_
  obtain ⟨w, H', I', rw', p, rfl, q⟩ := hq
  cases rw'
  exact ⟨.ref p, H', I', rfl, q⟩
end
section
variable {M : Model} {prog : Program} {w : World} {A : Around} {E : Value → Shared → Prop} {s : Shared} {K : PySem.W.Frag} {x C f L : Addr} {h₀ : Heap} {m : Str → Option Value} {ox : Obj} {od : Option Obj}
/-- o op= o without a method of that name -/
theorem aug_K {op : Operator} {b : Value} {Q : Value → Shared → Prop} (X : K.In s.heap) (I : PySem.W.InstAt s.heap x ox C od) (hb : PySem.W.Looks (model prog w) s.heap (typeOf b) (.ref C)) (hc : PySem.W.selfFirst K C = true)
    (hs : PySem.W.findIn K (.ref C) (PySem.dunder op.info.2) = some (some (.ref f))) (hf : PySem.W.isFn K (.ref f) = true) (hno : PySem.W.Looks (model prog w) s.heap (fillsInplaceSlot (.ref C) op.info.2 (op == .Add)) false)
    (h : wpAny (model prog w) A (call (.ref f) [.ref x, b]) (PySem.W.CmpBack Q) E s) : wpAny (model prog w) A (inplaceOp op (.ref x) b) Q E s := by
  obtain ⟨cd, hcd, hm⟩ := PySem.W.any_some hc
  obtain ⟨rest, hm⟩ : ∃ rest, cd.mro = .ref C :: rest := by
    cases q : cd.mro with
    | nil => rw [q] at hm; cases hm
    | cons a r => rw [q] at hm; exact ⟨r, by rw [List.head?_cons] at hm; cases (beq_iff_eq.mp hm); rfl⟩
  unfold inplaceOp
  refine wpAny_holding (wpAny_bind (I.type.here (wpAny_bind (hno.here ?_))))
  simp only [Bool.false_eq_true, if_false]
  refine wpAny_bind ?_
  unfold binaryOp1
  refine wpAny_bind (I.type.here (wpAny_bind (hb.here (wpAny_bind ((PySem.W.fills_K X hcd hm hs).here ?_)))))
  simp only [beq_self_eq_true, if_true]
  refine wpAny_bind (wpAny_pure ?_)
  simp only [Bool.and_false, Bool.false_eq_true, if_false, Bool.false_and]
  refine wpAny_bind (wpAny_pure ?_)
  simp only [Bool.false_eq_true, if_false]
  refine wpAny_bind (m := tryMethod (.ref x) _ b) ?_
  unfold tryMethod
  refine wpAny_bind (PySem.W.special_fn X I hs (beq_iff_eq.mp hf) (wpAny_mono h (fun v s' hv => ?_) fun _ _ e => e))
  cases v <;> first | exact hv.elim | exact wpAny_pure (wpAny_pure (wpAny_pure hv))
/-- no method of that name in the class or in object -/
theorem no_fills {cd : ClassData} {nm : String} {add : Bool} {h : Heap} (X : K.In h) (hcd : PySem.W.clsIn K C = some cd) (hm : cd.mro = [.ref C, .type "object"]) (h1 : PySem.W.findIn K (.ref C) (dunderI nm) = some none) (h2 : PySem.W.findIn K (.type "object") (dunderI nm) = some none) :
    PySem.W.Looks M h (fillsInplaceSlot (.ref C) nm add) false := by
  intro A Q E s k q
  have Lm : PySem.W.Looks M h (mroOf (.ref C)) cd.mro := (PySem.W.looks_clsIn X hcd).andThen (f := fun cd => pure cd.mro) .now
  have Lm' := Lm.keeps k
  obtain ⟨hh, g, d, tt, os⟩ := s
  have X' : K.In hh := X.keeps k
  have L1 : PySem.W.Looks M hh (typeLookup (.ref C) (dunderI nm)) none := PySem.W.looks_findIn X' h1
  have L2 : PySem.W.Looks M hh (typeLookup (.type "object") (dunderI nm)) none := PySem.W.looks_findIn X' h2
  unfold fillsInplaceSlot
  refine wpAny_bind (Lm'.at ?_)
  rw [hm, List.anyM_cons]
  refine wpAny_bind ?_
  refine wpAny_bind (L1.here ?_)
  refine wpAny_pure ?_
  simp only [Bool.false_eq_true, if_false]
  rw [List.anyM_cons]
  refine wpAny_bind ?_
  refine wpAny_bind (L2.here ?_)
  refine wpAny_pure ?_
  simp only [Bool.false_eq_true, if_false]
  exact wpAny_pure q
end
section
variable {X : Cx} {C f : Addr} {fd : FuncData} {k : Nat} {sp : Sp} {y : Str}
/-- o op= o -/
theorem iop_own {op : Operator} (F : FnOk X.prog X.w X.K X.mg X.base CX0 k f fd ["self", y] sp) (hr : Room k X.A) (hb : L2.Binds X.K fd ["self", y] []) (m : Meth X.K C (PySem.dunder op.info.2) f) (hc : PySem.W.selfFirst X.K C = true)
    (hm : ∃ cd, PySem.W.clsIn X.K C = some cd ∧ cd.mro = [.ref C, .type "object"]) (h1 : PySem.W.findIn X.K (.ref C) (dunderI op.info.2) = some none) (h2 : PySem.W.findIn X.K (.type "object") (dunderI op.info.2) = some none) :
    OpR X (inplaceOp op) (fun x z H Q => ∃ a dx fs b dy gs, x = .ref a ∧ z = .ref b ∧ H a = some (.ins C dx fs) ∧ H b = some (.ins C dy gs) ∧ sp [.ref a, .ref b] H (refQ Q) E0) := by
  intro pins s σ H x z v u Q I rx rz h
  obtain ⟨a, dx, fs, b, dy, gs, rfl, rfl, ha, hb', h⟩ := h
  cases rx
  cases rz
  obtain ⟨mA, O, _⟩ := ins_get I.hok ha
  obtain ⟨od, J, _⟩ := O.look
  obtain ⟨mA', O', _⟩ := ins_get I.hok hb'
  obtain ⟨od', J', _⟩ := O'.look
  obtain ⟨mm, FF⟩ := I.fr
  obtain ⟨cd, hcd, hmm⟩ := hm
  refine aug_K I.kIn J J'.type hc m.at_ m.fn (no_fills I.kIn hcd hmm h1 h2) ?_
  refine thn (run_fn (vs := [.ref a, .ref b]) (us := [.ref a, .ref b]) F hr hb .nil pass0 I (.cons rfl (.cons rfl .nil)) (by simpa using h)) fun r s' hq => ?_
  obtain ⟨w, H', I', rw', p, rfl, q⟩ := hq
  cases rw'
  exact ⟨.ref p, H', I', rfl, q⟩
end
end L3
/-! Own error classes: __init__ with super().__init__('..') and fields. -/
namespace L3
open PySem PySem.Spec PyProof.Rows L2
/-- an error object: its class, the tuple of its args, its dict -/
abbrev erO (C t : Addr) (d : Option Addr) : Obj := { cls := .ref C, dict := d, data := .fields #[.ref t, .none, .none, .none, .bool false, .none] }
section
open Builtin Builtin.ObjectAttr
variable {prog : Program} {w : World} {A : Around} {R : Result → Shared → Prop} {hp : Heap} {g : Array GenState} {d : Drawn} {t : Nat} {os : OsState} {K : PySem.W.Frag} {name : Str} {tk : Tok} {v : Value} {x C : Addr} {fv : Array Value} {cd : ClassData}
/-- what the class's line lets: no class in it takes the store for itself -/
structure Lets0 (cd : ClassData) : Prop where
  pass : ∀ self : Value, refuseLoop self "__setattr__" cd.mro = pure ()
  obj : cd.mro.contains (.type "object") = true
  ne : cd.mro.isEmpty = false
  dct : cd.hasDict = true
/-- the first field -/
theorem er_new (X : K.In hp) (hx : hp.get? x = some { cls := .ref C, data := .fields fv }) (hcd : PySem.W.clsIn K C = some cd) (L : Lets0 cd) (ha : PySem.W.findIn K (.ref C) name = some none)
    (hq : ∀ h' tk' dx, (∀ b o, b ≠ x → hp.get? b = some o → h'.get? b = some o) → hp.objs.size ≤ dx → dx ≠ x → h'.get? x = some { cls := .ref C, dict := some dx, data := .fields fv } →
      h'.Ns1 dx (fun y => if y = name then some v else none) → R (.ok (.ret .none)) ⟨h', g, d, tk', os⟩) :
    codeAny (model prog w) A (.call (.builtin "object.__setattr__") ⟨[.ref x, .str name tk, v], []⟩) R ⟨hp, g, d, t, os⟩ := by
  have In0 : PySem.W.InstAt hp x { cls := .ref C, data := .fields fv } C none := ⟨hx, rfl, rfl, trivial⟩
  have StF := F.store_object
  have nxs : x ≠ hp.objs.size := Nat.ne_of_lt (Heap.lt_size hx)
  have isO : PySem.W.Looks (model prog w) hp (isInstance (.ref x) (.type "object")) true := In0.type.andThen (PySem.W.looks_mroIn X (by unfold PySem.W.mroIn; rw [hcd, Option.bind_some, if_neg (by rw [L.ne]; decide), L.obj]))
  refine codeAny_call_builtin StF.slot.plain StF.entry (@PySem.W.check_slot (model prog w) _ _ ⟨hp, g, d, t, os⟩ "object.__setattr__" "object" "__setattr__" (.ref x) [.str name tk, v] [] _ StF.kind StF.split isO (StF.args (.ref x) (.str name tk) v) ?_)
  have lmro : PySem.W.Looks (model prog w) hp (mroOf (.ref C)) cd.mro := (PySem.W.looks_clsIn X hcd).andThen .now
  have lst : PySem.W.Looks (model prog w) hp (storeTaker? none) none := .now
  have lcls : PySem.W.Looks (model prog w) hp (classData C) cd := PySem.W.looks_clsIn X hcd
  rw [PySem.W.osa_eq, refuse_eq]
  refine wpAny_bind (wpAny_bind (In0.type.at (wpAny_bind (lmro.at ?_))))
  rw [L.pass]
  refine wpAny_pure (wpAny_bind (In0.type.at (wpAny_bind ((PySem.W.looks_findIn X ha).at (wpAny_bind (lst.at ?_))))))
  show wpAny _ _ (storeInOwnDict (.ref x) (.ref C) (.str name tk) name v false) _ _ _
  have hdc := L.dct
  clear L
  obtain ⟨nm, bs, mro, ns, qn, hd, sn, sb, ab, col, del⟩ := cd
  dsimp only at hdc
  subst hdc
  unfold storeInOwnDict ownDictForStores
  repeat (first | with_reducible refine PySem.HandSPX.store_in_new ?_ ?_ | with_reducible refine wpAny_loadPart_at hx ?_ | with_reducible refine lcls.at ?_ | wp_step)
  · exact ⟨_, #[], _, (Heap.get?_update_ne _ _ _ _ nxs.symm).trans (Heap.get?_push_at rfl rfl), rfl, fun e he => absurd he (by simp), fun _ => rfl⟩
  · intro h' tk' hn' hs
    have hx1 : (hp.push { cls := .type "dict", data := .dict #[] }).get? x = some { cls := .ref C, data := .fields fv } := Heap.get?_push_of_some _ hx
    refine hq h' tk' hp.objs.size (fun b o hb ho => ?_) (Nat.le_refl _) nxs.symm ?_ hn'
    · exact (hs.2 b (Nat.ne_of_lt (Heap.lt_size ho))).trans ((Heap.get?_update_ne _ _ _ _ hb).trans (Heap.get?_push_of_some _ ho))
    · exact (hs.2 x nxs).trans (Heap.get?_update_self _ hx1 rfl)
/-- a further field -/
theorem er_old {dx : Addr} {m0 : Str → Option Value} {nl : List Str} (X : K.In hp) (hx : hp.get? x = some { cls := .ref C, dict := some dx, data := .fields fv }) (hns : hp.Ns1 dx m0) (hw : Within m0 nl) (hz : nl.length ≤ 1000)
    (hcd : PySem.W.clsIn K C = some cd) (L : Lets0 cd) (ha : PySem.W.findIn K (.ref C) name = some none)
    (hq : ∀ h' tk', (∀ b o, b ≠ dx → hp.get? b = some o → h'.get? b = some o) → h'.Ns1 dx (fun y => if y = name then some v else m0 y) → R (.ok (.ret .none)) ⟨h', g, d, tk', os⟩) :
    codeAny (model prog w) A (.call (.builtin "object.__setattr__") ⟨[.ref x, .str name tk, v], []⟩) R ⟨hp, g, d, t, os⟩ := by
  obtain ⟨oD, esD, epD, hoD, hdD, _⟩ := hns.count hw
  have In0 : PySem.W.InstAt hp x { cls := .ref C, dict := some dx, data := .fields fv } C (some oD) := ⟨hx, rfl, rfl, hoD⟩
  have StF := F.store_object
  have isO : PySem.W.Looks (model prog w) hp (isInstance (.ref x) (.type "object")) true := In0.type.andThen (PySem.W.looks_mroIn X (by unfold PySem.W.mroIn; rw [hcd, Option.bind_some, if_neg (by rw [L.ne]; decide), L.obj]))
  refine codeAny_call_builtin StF.slot.plain StF.entry (@PySem.W.check_slot (model prog w) _ _ ⟨hp, g, d, t, os⟩ "object.__setattr__" "object" "__setattr__" (.ref x) [.str name tk, v] [] _ StF.kind StF.split isO (StF.args (.ref x) (.str name tk) v) ?_)
  have lmro : PySem.W.Looks (model prog w) hp (mroOf (.ref C)) cd.mro := (PySem.W.looks_clsIn X hcd).andThen .now
  have lst : PySem.W.Looks (model prog w) hp (storeTaker? none) none := .now
  have lcls : PySem.W.Looks (model prog w) hp (classData C) cd := PySem.W.looks_clsIn X hcd
  rw [PySem.W.osa_eq, refuse_eq]
  refine wpAny_bind (wpAny_bind (In0.type.at (wpAny_bind (lmro.at ?_))))
  rw [L.pass]
  refine wpAny_pure (wpAny_bind (In0.type.at (wpAny_bind ((PySem.W.looks_findIn X ha).at (wpAny_bind (lst.at ?_))))))
  show wpAny _ _ (storeInOwnDict (.ref x) (.ref C) (.str name tk) name v false) _ _ _
  have hdc := L.dct
  clear L
  obtain ⟨nm, bs, mro, ns, qn, hd, sn, sb, ab, col, del⟩ := cd
  dsimp only at hdc
  subst hdc
  unfold storeInOwnDict ownDictForStores
  repeat (first | with_reducible refine PySem.OEX.store_in_old hns hw hz ?_ | with_reducible refine wpAny_loadPart_at hx ?_ | with_reducible refine lcls.at ?_ | wp_step)
  intro h' tk' hn' hs
  exact hq h' tk' (fun b o hb ho => (hs.2 b hb).trans ho) hn'
end
end L3
/-! Own error classes: a run of __init__. -/
namespace L3
open PySem PySem.Spec PyProof.Rows L2 Builtin Builtin.ObjectAttr
/-- what the written part says of an error class: its own __init__ says super().__init__('..') -/
structure ErrF (P : Program) (K : PySem.W.Frag) (mg : Str → Option Value) (C fI : Addr) (B newId initId : String) (bmB : List Value) (ps : List Str) (params : Arguments) (body : List Stmt) (scope : Scope) : Prop where
  bf : ExcBaseFacts B newId initId bmB
  obj : bmB.contains (.type "object") = true
  sf : PySem.W.KxsFacts B initId
  cls : ∃ nm q N bs bm sn sub ab col dd k0 k1 k2 k3 k5, K.lookup C = some (excClassObj nm q C N bs bm true sn sub ab col dd k0 k1 k2 k3 k5 newId) ∧ (∀ X : String, bm.contains (.type X) = bmB.contains (.type X)) ∧
    ∀ self : Value, refuseLoop self "__setattr__" (.ref C :: bm) = pure ()
  fn : ∃ qual dV kV doc pm an cda ct cc oc od osl vs file tf ccl cdd ccs cl cld csl, K.lookup fI = some ⟨oc, od, .func (PySem.W.ksFn "__init__" qual params body scope dV kV doc pm an (.ref cda) ct cc), osl⟩ ∧ PySem.W.codeIn K (.ref cda) qual = true ∧
    K.lookup cda = some ⟨ccl, cdd, .fields vs, ccs⟩ ∧ vs[2]? = some (.str file tf) ∧ ((P.main.file : Str) == file) = true ∧ K.lookup cc = some ⟨cl, cld, .cell (some (.ref C)), csl⟩ ∧
    ∀ s us, us.length = ps.length → BindsTo s (PySem.W.ksFn "__init__" qual params body scope dV kV doc pm an (.ref cda) ct cc) ⟨us, []⟩ (ps.zip us)
  sup : PySem.W.ks_superIn K C C "__init__" = some (some (.builtin initId))
  self : PySem.W.mroIn K C (.ref C) = some true
  subB : PySem.W.subIn K (.ref C) (.type B) = some true
  opq : PySem.W.nsIn K cStatics "thirdparty.any" = some none
  glb : mg "super" = none
  top : (P.main.scope.names.lookup ("super" : Str)).isSome = false
  sa : PySem.W.findIn K (.ref C) "__setattr__" = some (some (.builtin "object.__setattr__"))
  ini : PySem.W.findIn K (.ref C) "__init__" = some (some (.ref fI))
  tI : PySem.W.typeIn K (.ref fI) = some (.type "function")
  kC : PySem.W.keepIn K (.ref C) = true
  exC : PySem.W.subIn K (.ref C) (.type "BaseException") = some true
  tyC : PySem.W.typeIn K (.ref C) = some (.type "type")
/-- the scope of such an __init__ -/
structure ErrS (ps : List Str) (params : Arguments) (scope : Scope) : Prop where
  sup : scope.names.lookup ("super" : Str) = some .globalImplicit
  cls : scope.names.lookup ("__class__" : Str) = some .free
  loc : ∀ x ∈ ps, scope.names.lookup x = some .local
  fst : ∃ ar : Arg, (params.posonlyargs ++ params.args).head? = some ar ∧ ar.arg = "self"
  hd : ps.head? = some "self"
  nd : ps.Nodup
  knd : scope.kind = .function
  cell : ∀ x ∈ scope.names, x.2 ≠ .cell
  co : scope.isCoroutine = false
  gn : scope.isGenerator = false
/-- the first row: super().__init__('..') -/
abbrev supE (txt : Str) (kk : Nat) (p0 p1 p2 p3 p4 : Pos) : Expr := .Call (.Attribute (.Call (.Name "super" p0) [] [] p1) "__init__" p2) [.Constant (.str txt) kk p3] [] p4
/-- it is read as a call of a method -/
def SupOk (scope : Scope) (txt : Str) (kk : Nat) (p0 p1 p2 p3 p4 : Pos) : Prop := ∀ (qual : Str) (L f : Addr) (cd : Value) (cc : Addr), ∃ pl : Sem Bool, eval (supE txt kk p0 p1 p2 p3 p4) (PySem.W.ksEnv qual scope L f cd cc) = (do
      let ov ← attributeBase (.Call (.Name "super" p0) [] [] p1) "__init__" (PySem.W.ksEnv qual scope L f cd cc) (eval (.Call (.Name "super" p0) [] [] p1) (PySem.W.ksEnv qual scope L f cd cc))
      standAt p2.atName
      let (f', first) ← holding [ov] (getMethod ov "__init__" pl)
      callWith p4 f' first (backTo p4 (starEach [.Constant (.str txt) kk p3] (PySem.W.ksEnv qual scope L f cd cc))) [])
/-- what stands around a run -/
structure ErrW (K : PySem.W.Frag) (mg : Str → Option Value) (h : Heap) : Prop where
  kin : K.In h
  glob : h.Ns mainGlobals mg
  blt : ∃ mb, h.Ns builtinsNs mb ∧ mb "super" = some (.type "super")
section
variable {P : Program} {w : World} {A : Around} {E : Value → Shared → Prop} {K : PySem.W.Frag} {mg : Str → Option Value} {C fI : Addr} {B newId initId : String} {bmB : List Value} {ps : List Str} {params : Arguments} {body : List Stmt} {scope : Scope}
theorem ErrW.keeps {h h' : Heap} (W : ErrW K mg h) (k : ∀ b o, h.get? b = some o → h'.get? b = some o) : ErrW K mg h' := by
  obtain ⟨mb, h1, h2⟩ := W.blt
  exact ⟨W.kin.keeps k, W.glob.keeps k, mb, h1.keeps k, h2⟩
theorem ErrW.but {h h' : Heap} {e : Addr} (W : ErrW K mg h) (he : K.lookup e = none) (h1 : e ≠ mainGlobals) (h2 : e ≠ builtinsNs) (k : ∀ b o, b ≠ e → h.get? b = some o → h'.get? b = some o) : ErrW K mg h' := by
  obtain ⟨mb, z1, z2⟩ := W.blt
  refine ⟨fun b o q => k b o (fun z => by rw [z, he] at q; cases q) (W.kin b o q), W.glob.at fun o q => k _ o h1.symm q, mb, z1.at fun o q => k _ o h2.symm q, z2⟩
theorem errObj {h : Heap} {e t : Addr} {d : Option Addr} (he : h.get? e = some (erO C t d)) {od : Option Obj} (hd : match d, od with | none, none => True | some dx, some o => h.get? dx = some o | _, _ => False) : PySem.W.InstAt h e (erO C t d) C od := by
  cases d <;> cases od <;> first | exact hd.elim | exact ⟨he, rfl, rfl, hd⟩
/-- super().__init__('..') -/
theorem sup_stmt {qual : Str} {dV kV doc pm ct oc ccl cl : Value} {an od cdd cld : Option Addr} {cda cc L e t0 : Addr} {osl ccs csl : Array (Option Value)} {vs : Array Value} {file : Str} {tf : Tok} {m : Str → Option Value} {s : Shared} {body0 : List Stmt} {p0 p1 p2 p3 p4 p5 : Pos} {kk : Nat} {txt : Str} {Q : Flow → Shared → Prop}
    (T : ErrF P K mg C fI B newId initId bmB ps params body scope) (S : ErrS ps params scope) (W : ErrW K mg s.heap) (hev : SupOk scope txt kk p0 p1 p2 p3 p4)
    (hf : K.lookup fI = some ⟨oc, od, .func (PySem.W.ksFn "__init__" qual params body scope dV kV doc pm an (.ref cda) ct cc), osl⟩) (hc : K.lookup cda = some ⟨ccl, cdd, .fields vs, ccs⟩) (hv : vs[2]? = some (.str file tf)) (hfl : ((P.main.file : Str) == file) = true)
    (hcc : K.lookup cc = some ⟨cl, cld, .cell (some (.ref C)), csl⟩) (hn : s.heap.Ns L m) (hs : m "self" = some (.ref e)) (he : s.heap.get? e = some (erO C t0 none))
    (h : ∀ h' tk t', (∀ b o, b ≠ e → s.heap.get? b = some o → h'.get? b = some o) → h'.get? e = some (erO C t' none) → Q .next { s with heap := h', toks := tk }) :
    PySem.wpAt (model P w) A (.func body0 (PySem.W.ksEnv qual scope L fI (.ref cda) cc)) (exec (.Expr (supE txt kk p0 p1 p2 p3 p4) p5) (PySem.W.ksEnv qual scope L fI (.ref cda) cc)) Q E s := by
  obtain ⟨ar, ha1, ha2⟩ := S.fst
  obtain ⟨mb, hb1, hb2⟩ := W.blt
  obtain ⟨nm, q, N, bs, bm, sn, sub, ab, col, dd, k0, k1, k2, k3, k5, hC, hT, _⟩ := T.cls
  have X := W.kin
  obtain ⟨hh, g, d, t, os⟩ := s
  have hcl : PySem.W.clsIn K C = some { name := nm, bases := bs, mro := .ref C :: bm, ns := N, qualname := q, hasDict := true, slotNames := sn, subclasses := sub, abstract := ab, collection := col, hasDel := false } := by unfold PySem.W.clsIn; rw [hC] <;> rfl
  have hself : scope.names.lookup ar.arg = some .local := by
    rw [ha2]
    exact S.loc "self" (List.mem_of_head? S.hd)
  have hCh := X _ _ hC
  obtain ⟨pl, hev'⟩ := hev qual L fI (.ref cda) cc
  have hint : interactive (PySem.W.ksEnv qual scope L fI (.ref cda) cc) = false := by
    show (scope.kind == .module && _) = false
    rw [S.knd]; rfl
  refine ks_wpAt_Expr_any (ks_wpAt_MethodCall (ks_wpAt_super_base (env := PySem.W.ksEnv qual scope L fI (.ref cda) cc) S.sup S.cls rfl rfl (X _ _ hf) rfl ha1 rfl (X _ _ hc) rfl hv hfl T.top ?_) hev') hint
  refine PySem.W.ks_loadName_global S.knd S.sup (Calls.loadGlobal_builtin (env := PySem.W.ksEnv qual scope L fI (.ref cda) cc) W.glob T.glb hb1 hb2 ⟨rfl, ?_⟩)
  refine wpAny_loadName_free S.knd S.cls rfl ⟨_, X _ _ hcc, rfl⟩ ?_
  refine wpAny_loadName_local S.knd hself hn (by rw [ha2]; exact hs) ?_
  refine ks_wpAny_isType_cls hCh rfl ⟨rfl, ?_⟩
  refine ks_wpAny_call_super hCh rfl he rfl (fun c z => by cases z) (PySem.W.looks_mroIn X T.self) (fun h1 e1 k1' => ?_)
  have X1 : K.In h1 := X.keeps k1'
  have he1 := k1' _ _ he
  have I1 : PySem.W.InstAt h1 e (erO C t0 none) C none := ⟨he1, rfl, rfl, trivial⟩
  have hsup := T.sup
  unfold PySem.W.ks_superIn at hsup
  rw [hcl] at hsup
  refine PySem.W.kxs_getMethod T.sf e1 (PySem.W.looks_opaque X1 T.opq) (l₀ := .ref C :: bm) (fun A Q E s k q => wpAny_bind ((PySem.W.looks_clsIn X1 hcl) A _ E s k (wpAny_pure q))) rfl X1 hsup (I1.type.andThen (PySem.W.looks_subIn X1 T.subB)) (PySem.W.ks_ne X1 I1 hcl) rfl ?_
  refine PySem.W.kxs_callWith (i := initId) (x := e) rfl ?_
  refine Calls.evalArgs_plain (Calls.spliced_cons (wpAny_Constant_str (k := kk) (pos := p3) (Calls.spliced_nil ?_)))
  have hw2 : (h1.push (PySem.W.kxs_mw initId e)).get? h1.objs.size = some (PySem.W.kxs_mw initId e) := Heap.get?_push_at rfl rfl
  have k2' : ∀ b o, h1.get? b = some o → (h1.push (PySem.W.kxs_mw initId e)).get? b = some o := fun b o z => Heap.get?_push_of_some _ z
  refine ⟨hw2, ?_⟩
  refine wpAny_call (codeAny_of_tree ?_)
  show wpAny _ A.in1 (callAny (.ref h1.objs.size) ⟨[.str txt _], []⟩) _ _ _
  simp only [callAny]
  refine wpAny_bind (wpAny_load hw2 ?_)
  simp only [PySem.W.kxs_mw, show (Value.type "method-wrapper" == Value.type "method" || Value.type "method-wrapper" == Value.type "builtin_function_or_method" || Value.type "method-wrapper" == Value.type "method-wrapper") = true by decide, if_true]
  refine PySem.W.KFB.if_so (by decide) ?_
  refine wpAny_bind (PySem.W.check_bound_init T.bf.toExcCallFacts (k2' _ _ (k1' _ _ hCh)) (k2' _ _ he1) rfl ?_)
  refine wpAny_bind (wpAny_pure (wpAny_pure ?_))
  refine ⟨plainId_quiet T.bf.init.plain _, codeAny_builtin T.bf.initEntry ?_⟩
  refine PySem.W.exc_init_tree (cls := .ref C) (t0 := t0) (dv := none) (c2 := .none) (c3 := .none) (b4 := .bool false) (k2' _ _ he1) (by rw [sizeLine_eq]; show 1 ≤ _; decide) (fun h3 k3' e3 _ => ?_)
  exact h h3 _ _ (fun b o hb z => k3' b o hb (k2' _ _ (k1' _ _ z))) e3
/-- self.f = x, the first one -/
theorem sto_new {qual : Str} {cda : Value} {cc L e t0 : Addr} {m : Str → Option Value} {s : Shared} {body0 : List Stmt} {p1 p2 p3 p4 : Pos} {f x : Str} {v : Value} {Q : Flow → Shared → Prop}
    (T : ErrF P K mg C fI B newId initId bmB ps params body scope) (S : ErrS ps params scope) (X : K.In s.heap) (hn : s.heap.Ns L m) (hs : m "self" = some (.ref e)) (hx : m x = some v) (hself : scope.names.lookup ("self" : Str) = some .local) (hxl : scope.names.lookup x = some .local) (hdb : (x == ("__debug__" : Str)) = false) (hfn : PySem.W.findIn K (.ref C) f = some none)
    (he : s.heap.get? e = some (erO C t0 none)) (hsw : swapsWith (.Name x p3) (some (.Attribute (.Name "self" p1) f p2)) p4.line (PySem.W.ksEnv qual scope L fI cda cc) = pure false)
    (h : ∀ h' tk dx, (∀ b o, b ≠ e → s.heap.get? b = some o → h'.get? b = some o) → s.heap.objs.size ≤ dx → dx ≠ e → h'.get? e = some (erO C t0 (some dx)) → h'.Ns1 dx (fun y => if y = f then some v else none) → Q .next { s with heap := h', toks := tk }) :
    PySem.wpAt (model P w) A (.func body0 (PySem.W.ksEnv qual scope L fI cda cc)) (exec (.Assign [.Attribute (.Name "self" p1) f p2] (.Name x p3) p4) (PySem.W.ksEnv qual scope L fI cda cc)) Q E s := by
  obtain ⟨nm, q, N, bs, bm, sn, sub, ab, col, dd, k0, k1, k2, k3, k5, hC, hT, hp⟩ := T.cls
  have hcl : PySem.W.clsIn K C = some { name := nm, bases := bs, mro := .ref C :: bm, ns := N, qualname := q, hasDict := true, slotNames := sn, subclasses := sub, abstract := ab, collection := col, hasDel := false } := by unfold PySem.W.clsIn; rw [hC] <;> rfl
  have hob : (Value.ref C :: bm).contains (.type "object") = true := by
    rw [List.contains_cons, hT, T.obj, Bool.or_true]
  refine ks_wpAt_Assign_Attr (wpAt_of_wpAny (wpAny_Name (wpAny_loadName_local S.knd hxl hn hx (wpAny_Name (wpAny_loadName_local S.knd hself hn hs ?_))) hdb)) hsw
  obtain ⟨hh, g, d, t, os⟩ := s
  refine PySem.W.set_plain X (ox := erO C t0 none) (od := none) ⟨he, rfl, rfl, trivial⟩ T.sa ?_
  exact er_new X he hcl ⟨hp, hob, rfl, rfl⟩ hfn fun h' tk' dx k dn dne hx' hn' => h h' tk' dx k dn dne hx' hn'
/-- self.f = x, a further one -/
theorem sto_old {qual : Str} {cda : Value} {cc L e t0 dx : Addr} {m m0 : Str → Option Value} {s : Shared} {body0 : List Stmt} {p1 p2 p3 p4 : Pos} {f x : Str} {v : Value} {nl : List Str} {Q : Flow → Shared → Prop}
    (T : ErrF P K mg C fI B newId initId bmB ps params body scope) (S : ErrS ps params scope) (X : K.In s.heap) (hn : s.heap.Ns L m) (hs : m "self" = some (.ref e)) (hx : m x = some v) (hself : scope.names.lookup ("self" : Str) = some .local) (hxl : scope.names.lookup x = some .local) (hdb : (x == ("__debug__" : Str)) = false) (hfn : PySem.W.findIn K (.ref C) f = some none)
    (he : s.heap.get? e = some (erO C t0 (some dx))) (hd : s.heap.Ns1 dx m0) (hw : Within m0 nl) (hz : nl.length ≤ 1000) (hsw : swapsWith (.Name x p3) (some (.Attribute (.Name "self" p1) f p2)) p4.line (PySem.W.ksEnv qual scope L fI cda cc) = pure false)
    (h : ∀ h' tk, (∀ b o, b ≠ dx → s.heap.get? b = some o → h'.get? b = some o) → h'.Ns1 dx (fun y => if y = f then some v else m0 y) → Q .next { s with heap := h', toks := tk }) :
    PySem.wpAt (model P w) A (.func body0 (PySem.W.ksEnv qual scope L fI cda cc)) (exec (.Assign [.Attribute (.Name "self" p1) f p2] (.Name x p3) p4) (PySem.W.ksEnv qual scope L fI cda cc)) Q E s := by
  obtain ⟨nm, q, N, bs, bm, sn, sub, ab, col, dd, k0, k1, k2, k3, k5, hC, hT, hp⟩ := T.cls
  have hcl : PySem.W.clsIn K C = some { name := nm, bases := bs, mro := .ref C :: bm, ns := N, qualname := q, hasDict := true, slotNames := sn, subclasses := sub, abstract := ab, collection := col, hasDel := false } := by unfold PySem.W.clsIn; rw [hC] <;> rfl
  have hob : (Value.ref C :: bm).contains (.type "object") = true := by
    rw [List.contains_cons, hT, T.obj, Bool.or_true]
  obtain ⟨oD, _, _, hoD, _, _⟩ := hd.count hw
  refine ks_wpAt_Assign_Attr (wpAt_of_wpAny (wpAny_Name (wpAny_loadName_local S.knd hxl hn hx (wpAny_Name (wpAny_loadName_local S.knd hself hn hs ?_))) hdb)) hsw
  obtain ⟨hh, g, d, t, os⟩ := s
  refine PySem.W.set_plain X (ox := erO C t0 (some dx)) (od := some oD) ⟨he, rfl, rfl, hoD⟩ T.sa ?_
  exact er_old X he hd hw hz hcl ⟨hp, hob, rfl, rfl⟩ hfn fun h' tk' k hn' => h h' tk' k hn'
/-- the stores behind super().__init__('..') -/
structure Sto (scope : Scope) (x f : Str) (q1 q2 q3 q4 : Pos) : Prop where
  loc : scope.names.lookup x = some .local
  db : (x == ("__debug__" : Str)) = false
  sw : ∀ (qual : Str) (L f' : Addr) (cd : Value) (cc : Addr), swapsWith (.Name x q3) (some (.Attribute (.Name "self" q1) f q2)) q4.line (PySem.W.ksEnv qual scope L f' cd cc) = pure false
/-- what is known of e and of all else, behind -/
structure ErrEnd (C e : Addr) (m0 : Str → Option Value) (s s' : Shared) : Prop where
  keep : ∀ b o, b ≠ e → s.heap.get? b = some o → s'.heap.get? b = some o
  at_ : ∃ t dx, s'.heap.get? e = some (erO C t (some dx)) ∧ s'.heap.Ns1 dx m0 ∧ s.heap.objs.size ≤ dx ∧ dx ≠ e
  gens : s'.gens = s.gens
  os : s'.os = s.os
section
variable {R : Result → Shared → Prop} {s : Shared} {e t0 : Addr} {p0 p1 p2 p3 p4 p5 q1 q2 q3 q4 r1 r2 r3 r4 : Pos} {kk : Nat} {txt x f y f2 : Str} {v u : Value}
theorem err_init1 {body : List Stmt} (T : ErrF P K mg C fI B newId initId bmB ["self", x] params body scope) (S : ErrS ["self", x] params scope) (hev : SupOk scope txt kk p0 p1 p2 p3 p4) (D : Sto scope x f q1 q2 q3 q4) (hfn : PySem.W.findIn K (.ref C) f = some none)
    (hbody : body = [.Expr (supE txt kk p0 p1 p2 p3 p4) p5, .Assign [.Attribute (.Name "self" q1) f q2] (.Name x q3) q4]) (hroom : A.depth < recursionLimit) (W : ErrW K mg s.heap) (hlim : s.heap.NoLimit) (n0 : K.lookup e = none) (n1 : e ≠ mainGlobals) (n2 : e ≠ builtinsNs)
    (he : s.heap.get? e = some (erO C t0 none)) (h : ∀ s', ErrEnd C e (fun z => if z = f then some v else none) s s' → R (.ok (.ret .none)) s') : codeAny (model P w) A (.call (.ref fI) ⟨[.ref e, v], []⟩) R s := by
  subst hbody
  obtain ⟨qual, dV, kV, doc, pm, an, cda, ct, cc, oc, od, osl, vs, file, tf, ccl, cdd, ccs, cl, cld, csl, hf, hcd, hc, hv, hfl, hcc, hbd⟩ := T.fn
  have hb := hbd s [.ref e, v] rfl
  have hself := S.loc "self" (List.mem_of_head? S.hd)
  have hne : ("self" : Str) ≠ x := by
    have := S.nd
    rw [List.nodup_cons] at this
    exact fun z => this.1 (by rw [z]; exact List.mem_cons_self)
  refine ks_codeAny_call_defAt (fd := PySem.W.ksFn "__init__" qual params _ scope dV kV doc pm an (.ref cda) ct cc) (binds := [(("self" : Str), .ref e), (x, v)]) hroom (W.kin _ _ hf) rfl hlim (PySem.W.codeRec_of W.kin hcd) rfl hb S.cell (fun z hz => ?_) (fun h0 hns hk => ?_) S.co S.gn S.knd
  · rcases List.mem_cons.mp hz with rfl | hz
    · exact hself
    · rw [List.mem_singleton.mp hz]; exact D.loc
  have W0 := W.keeps hk
  have hL : s.heap.objs.size ≠ e := Nat.ne_of_gt (Heap.lt_size he)
  have m1 : ([(("self" : Str), Value.ref e), (x, v)].reverse.lookup ("self" : Str)) = some (.ref e) := by
    show List.lookup _ [(x, v), (("self" : Str), Value.ref e)] = _
    rw [List.lookup_cons, show (("self" : Str) == x) = false from beq_eq_false_iff_ne.mpr hne]
    simp
  have m2 : ([(("self" : Str), Value.ref e), (x, v)].reverse.lookup x) = some v := by
    show List.lookup _ [(x, v), (("self" : Str), Value.ref e)] = _
    rw [List.lookup_cons, beq_self_eq_true]
  refine ks_wpAt_execs_cons (sup_stmt (s := { s with heap := h0, toks := _ }) T S W0 hev hf hc hv hfl hcc hns m1 (hk _ _ he) fun h1 tk1 t1 k1 e1 => ?_)
  have W1 := W0.but n0 n1 n2 k1
  have hns1 := hns.at fun o z => k1 _ o hL z
  refine ks_wpAt_execs_cons (sto_new (s := { s with heap := h1, toks := tk1 }) T S W1.kin hns1 m1 m2 hself D.loc D.db hfn e1 (D.sw _ _ _ _ _) fun h2 tk2 dx k2 dn dne e2 hd => ?_)
  refine wpAt_of_wpAny (wpAny_execs_nil ?_)
  refine h _ ⟨fun b o hb z => k2 b o hb (k1 b o hb (hk b o z)), ⟨t1, dx, e2, hd, ?_, dne⟩, rfl, rfl⟩
  exact Nat.le_trans (Nat.le_of_lt hns1.lt) dn
theorem err_init2 {body : List Stmt} (T : ErrF P K mg C fI B newId initId bmB ["self", x, y] params body scope) (S : ErrS ["self", x, y] params scope) (hev : SupOk scope txt kk p0 p1 p2 p3 p4) (D : Sto scope x f q1 q2 q3 q4) (D2 : Sto scope y f2 r1 r2 r3 r4) (hfn : PySem.W.findIn K (.ref C) f = some none) (hfn2 : PySem.W.findIn K (.ref C) f2 = some none)
    (hbody : body = [.Expr (supE txt kk p0 p1 p2 p3 p4) p5, .Assign [.Attribute (.Name "self" q1) f q2] (.Name x q3) q4, .Assign [.Attribute (.Name "self" r1) f2 r2] (.Name y r3) r4]) (hroom : A.depth < recursionLimit) (W : ErrW K mg s.heap) (hlim : s.heap.NoLimit) (n0 : K.lookup e = none) (n1 : e ≠ mainGlobals) (n2 : e ≠ builtinsNs)
    (he : s.heap.get? e = some (erO C t0 none)) (h : ∀ s', ErrEnd C e (fun z => if z = f2 then some u else if z = f then some v else none) s s' → R (.ok (.ret .none)) s') : codeAny (model P w) A (.call (.ref fI) ⟨[.ref e, v, u], []⟩) R s := by
  subst hbody
  obtain ⟨qual, dV, kV, doc, pm, an, cda, ct, cc, oc, od, osl, vs, file, tf, ccl, cdd, ccs, cl, cld, csl, hf, hcd, hc, hv, hfl, hcc, hbd⟩ := T.fn
  have hb := hbd s [.ref e, v, u] rfl
  have hself := S.loc "self" (List.mem_of_head? S.hd)
  have hne : ("self" : Str) ≠ x := by
    have := S.nd
    rw [List.nodup_cons] at this
    exact fun z => this.1 (by rw [z]; exact List.mem_cons_self)
  have hne2 : ("self" : Str) ≠ y := by
    have := S.nd
    rw [List.nodup_cons] at this
    exact fun z => this.1 (by rw [z]; simp)
  have hne3 : x ≠ y := by
    have := S.nd
    rw [List.nodup_cons, List.nodup_cons] at this
    exact fun z => this.2.1 (by rw [z]; simp)
  refine ks_codeAny_call_defAt (fd := PySem.W.ksFn "__init__" qual params _ scope dV kV doc pm an (.ref cda) ct cc) (binds := [(("self" : Str), .ref e), (x, v), (y, u)]) hroom (W.kin _ _ hf) rfl hlim (PySem.W.codeRec_of W.kin hcd) rfl hb S.cell (fun z hz => ?_) (fun h0 hns hk => ?_) S.co S.gn S.knd
  · rcases List.mem_cons.mp hz with rfl | hz
    · exact hself
    · rcases List.mem_cons.mp hz with rfl | hz
      · exact D.loc
      · rw [List.mem_singleton.mp hz]; exact D2.loc
  have W0 := W.keeps hk
  have hL : s.heap.objs.size ≠ e := Nat.ne_of_gt (Heap.lt_size he)
  have m1 : ([(("self" : Str), Value.ref e), (x, v), (y, u)].reverse.lookup ("self" : Str)) = some (.ref e) := by
    show List.lookup _ [(y, u), (x, v), (("self" : Str), Value.ref e)] = _
    rw [List.lookup_cons, show (("self" : Str) == y) = false from beq_eq_false_iff_ne.mpr hne2]
    dsimp only
    rw [List.lookup_cons, show (("self" : Str) == x) = false from beq_eq_false_iff_ne.mpr hne]
    simp
  have m2 : ([(("self" : Str), Value.ref e), (x, v), (y, u)].reverse.lookup x) = some v := by
    show List.lookup _ [(y, u), (x, v), (("self" : Str), Value.ref e)] = _
    rw [List.lookup_cons, show (x == y) = false from beq_eq_false_iff_ne.mpr hne3]
    dsimp only
    rw [List.lookup_cons, beq_self_eq_true]
  have m3 : ([(("self" : Str), Value.ref e), (x, v), (y, u)].reverse.lookup y) = some u := by
    show List.lookup _ [(y, u), (x, v), (("self" : Str), Value.ref e)] = _
    rw [List.lookup_cons, beq_self_eq_true]
  refine ks_wpAt_execs_cons (sup_stmt (s := { s with heap := h0, toks := _ }) T S W0 hev hf hc hv hfl hcc hns m1 (hk _ _ he) fun h1 tk1 t1 k1 e1 => ?_)
  have W1 := W0.but n0 n1 n2 k1
  have hns1 := hns.at fun o z => k1 _ o hL z
  refine ks_wpAt_execs_cons (sto_new (s := { s with heap := h1, toks := tk1 }) T S W1.kin hns1 m1 m2 hself D.loc D.db hfn e1 (D.sw _ _ _ _ _) fun h2 tk2 dx k2 dn dne e2 hd => ?_)
  have W2 := W1.but n0 n1 n2 k2
  have hns2 := hns1.at fun o z => k2 _ o hL z
  have wi : Within (fun z => if z = f then some v else none) [f] := Within.cons f v Within.nil
  refine ks_wpAt_execs_cons (sto_old (s := { s with heap := h2, toks := tk2 }) T S W2.kin hns2 m1 m3 hself D2.loc D2.db hfn2 e2 hd wi (by show 1 ≤ 1000; decide) (D2.sw _ _ _ _ _) fun h3 tk3 k3 hd3 => ?_)
  refine wpAt_of_wpAny (wpAny_execs_nil ?_)
  have hle := Nat.le_trans (Nat.le_of_lt hns1.lt) dn
  refine h _ ⟨fun b o hb z => k3 b o (fun z2 => absurd (z2 ▸ Heap.lt_size z) (Nat.not_lt.mpr hle)) (k2 b o hb (k1 b o hb (hk b o z))), ⟨t1, dx, k3 _ _ dne.symm e2, hd3, hle, dne⟩, rfl, rfl⟩
theorem err_init0 {body : List Stmt} (T : ErrF P K mg C fI B newId initId bmB ["self"] params body scope) (S : ErrS ["self"] params scope) (hev : SupOk scope txt kk p0 p1 p2 p3 p4)
    (hbody : body = [.Expr (supE txt kk p0 p1 p2 p3 p4) p5]) (hroom : A.depth < recursionLimit) (W : ErrW K mg s.heap) (hlim : s.heap.NoLimit) (n0 : K.lookup e = none) (n1 : e ≠ mainGlobals) (n2 : e ≠ builtinsNs)
    (he : s.heap.get? e = some (erO C t0 none)) (h : ∀ s' t', (∀ b o, b ≠ e → s.heap.get? b = some o → s'.heap.get? b = some o) → s'.heap.get? e = some (erO C t' none) → s'.gens = s.gens → s'.os = s.os → R (.ok (.ret .none)) s') : codeAny (model P w) A (.call (.ref fI) ⟨[.ref e], []⟩) R s := by
  subst hbody
  obtain ⟨qual, dV, kV, doc, pm, an, cda, ct, cc, oc, od, osl, vs, file, tf, ccl, cdd, ccs, cl, cld, csl, hf, hcd, hc, hv, hfl, hcc, hbd⟩ := T.fn
  have hb := hbd s [.ref e] rfl
  have hself := S.loc "self" (List.mem_of_head? S.hd)
  refine ks_codeAny_call_defAt (fd := PySem.W.ksFn "__init__" qual params _ scope dV kV doc pm an (.ref cda) ct cc) (binds := [(("self" : Str), .ref e)]) hroom (W.kin _ _ hf) rfl hlim (PySem.W.codeRec_of W.kin hcd) rfl hb S.cell (fun z hz => ?_) (fun h0 hns hk => ?_) S.co S.gn S.knd
  · rw [List.mem_singleton.mp hz]; exact hself
  have W0 := W.keeps hk
  have hL : s.heap.objs.size ≠ e := Nat.ne_of_gt (Heap.lt_size he)
  have m1 : ([(("self" : Str), Value.ref e)].reverse.lookup ("self" : Str)) = some (.ref e) := by
    show List.lookup _ [(("self" : Str), Value.ref e)] = _
    rw [List.lookup_cons, beq_self_eq_true]
  refine ks_wpAt_execs_cons (sup_stmt (s := { s with heap := h0, toks := _ }) T S W0 hev hf hc hv hfl hcc hns m1 (hk _ _ he) fun h1 tk1 t1 k1 e1 => ?_)
  refine wpAt_of_wpAny (wpAny_execs_nil ?_)
  exact h _ t1 (fun b o hb z => k1 b o hb (hk b o z)) e1 rfl rfl
end
end
end L3
/-! raise C(..), C an own error class: rules. -/
namespace L3
open PySem PySem.Spec PyProof.Rows L2
section
variable {X : Cx} {pins : List (Addr × Obj)} {σ : L2.St} {H1 : Hp} {s1 s' : Shared} {a d : Addr} {fs : List (Str × V)} {mA : Str → Option Value}
/-- the error itself is let go, its dict is tracked -/
theorem err_inv (I1 : L2.Inv X pins σ H1 s1) (ha : s1.heap.objs.size ≤ a) (hd : s1.heap.objs.size ≤ d) (hda : d ≠ a) (k : ∀ b o, s1.heap.get? b = some o → s'.heap.get? b = some o) (hns : s'.heap.Ns1 d mA) (rel : ∀ f, RelO (fs.lookup f) (mA f)) :
    ∃ G, L2.Inv X pins σ (upd H1 d (.xd fs)) { s1 with heap := G, toks := s'.toks } ∧ (∀ b o, G.get? b = some o → s'.heap.get? b = some o) ∧ G.get? a = none ∧ (upd H1 d (.xd fs)) a = none := by
  obtain ⟨G, g1, g2⟩ := restrict s'.heap fun b => decide (b ≠ a)
  have gk : ∀ b, b ≠ a → G.get? b = s'.heap.get? b := fun b hb => g1 b (decide_eq_true hb)
  have ge : G.get? a = none := g2 a (by simp)
  have nha : ∀ {b : Addr} {o : Obj}, s1.heap.get? b = some o → b ≠ a := fun {b o} z => Nat.ne_of_lt (Nat.lt_of_lt_of_le (Heap.lt_size z) ha)
  have nhd : ∀ {b : Addr} {o : Obj}, s1.heap.get? b = some o → b ≠ d := fun {b o} z => Nat.ne_of_lt (Nat.lt_of_lt_of_le (Heap.lt_size z) hd)
  have nH : ∀ {b : Addr} {o : HO}, H1 b = some o → b ≠ d := fun {b o} z => Nat.ne_of_lt (Nat.lt_of_lt_of_le (I1.hok.lt z) hd)
  have nHa : ∀ {b : Addr} {o : HO}, H1 b = some o → b ≠ a := fun {b o} z => Nat.ne_of_lt (Nat.lt_of_lt_of_le (I1.hok.lt z) ha)
  have kG : ∀ b o, s1.heap.get? b = some o → G.get? b = some o := fun b o z => by rw [gk b (nha z)]; exact k b o z
  have U : L2.Un X.fs [] H1 (upd H1 d (.xd fs)) s1.heap G := {
    keep := fun b o z _ _ _ => kG b o z
    slot := fun b o z _ _ _ => ⟨o.slots, kG b o z⟩
    free := fun b o z n _ => by rw [upd_ne (nhd z)]; exact n
    there := fun b o z _ => ⟨o, kG b o z⟩
    tups := fun b xs z => by rw [upd_ne (nH z)]; exact z
    frzs := fun b o v z => by rw [upd_ne (nH z)]; exact z
    tbls := fun b ps z => ⟨#[], by rw [upd_ne (nH z), z]; simp⟩ }
  refine ⟨G, I1.un (t' := s'.toks) U fun b o z => ?_, fun b o z => ?_, ge, ?_⟩
  · by_cases hb : b = d
    · subst hb
      rw [upd_same] at z
      cases z
      exact ⟨mA, hns.at fun o y => (gk b hda).trans y, rel⟩
    · rw [upd_ne hb] at z
      exact (I1.hok b o z).stay (fun c v _ y => kG c v y) (fun c hc => by rw [upd_ne (nH hc)]; exact hc) (fun c xs hc => by rw [upd_ne (nH hc)]; exact hc)
  · by_cases hb : b = a
    · rw [hb, ge] at z; cases z
    · rw [← gk b hb]; exact z
  · rw [upd_ne hda.symm]
    exact I1.hok.fresh ha
end
/-- a row of an error class's text -/
structure ErrT (P : Program) (K : PySem.W.Frag) (mg : Str → Option Value) (C fI : Addr) (B newId initId : String) (bmB : List Value) (ps : List Str) (params : Arguments) (body : List Stmt) (scope : Scope) : Prop where
  f : ErrF P K mg C fI B newId initId bmB ps params body scope
  s : ErrS ps params scope
section
variable {X : Cx} {C fI : Addr} {B newId initId : String} {bmB : List Value} {params : Arguments} {body : List Stmt} {scope : Scope} {p0 p1 p2 p3 p4 p5 q1 q2 q3 q4 r1 r2 r3 r4 : Pos} {kk : Nat} {txt x y f f2 cn : Str} {pins : List (Addr × Obj)} {σ : L2.St} {H1 : Hp} {s1 : Shared}
theorem errW (I : L2.Inv X pins σ H1 s1) : ErrW X.K X.mg s1.heap := by
  obtain ⟨mb, h1, h2⟩ := I.mod.blt
  exact ⟨I.kIn, I.mod.glob.keeps I.bk, mb, h1.keeps I.bk, (h2 _ (by decide)).trans PyProof.Rows.Boot.«super»⟩
/-- C(x) is made -/
theorem err_make1 {u : Value} {R : Value → Shared → Prop} {E : Value → Shared → Prop} (T : ErrT X.prog X.K X.mg C fI B newId initId bmB ["self", x] params body scope) (hev : SupOk scope txt kk p0 p1 p2 p3 p4) (D : Sto scope x f q1 q2 q3 q4) (hfn : PySem.W.findIn X.K (.ref C) f = some none)
    (hbody : body = [.Expr (supE txt kk p0 p1 p2 p3 p4) p5, .Assign [.Attribute (.Name "self" q1) f q2] (.Name x q3) q4]) (hr : Room 1 X.A) (I : L2.Inv X pins σ H1 s1)
    (h : ∀ (a t d : Addr) (s' : Shared), s1.heap.objs.size ≤ a → s1.heap.objs.size ≤ d → d ≠ a → (∀ b o, s1.heap.get? b = some o → s'.heap.get? b = some o) → s'.heap.get? a = some (erO C t (some d)) → s'.heap.Ns1 d (fun z => if z = f then some u else none) → s'.gens = s1.gens → s'.os = s1.os → R (.ref a) s') :
    wpAny (model X.prog X.w) X.A (call (.ref C) [u]) R E s1 := by
  obtain ⟨nm, q, N, bs, bm, sn, sub, ab, col, dd, k0, k1, k2, k3, k5, hC, hT, hp⟩ := T.f.cls
  have hsz : s1.heap.objs.size ≤ s1.heap.objs.size + 1 := Nat.le_succ _
  have I0 := I
  obtain ⟨hp, g, dr, tk, os⟩ := s1
  have kk' : ∀ b o, hp.get? b = some o → ((hp.push (PySem.W.kdv_tup [u])).push (PySem.HandSPX.excO C hp.objs.size)).get? b = some o := fun b o e => Heap.get?_push_of_some _ (Heap.get?_push_of_some _ e)
  have hget : ((hp.push (PySem.W.kdv_tup [u])).push (PySem.HandSPX.excO C hp.objs.size)).get? (hp.objs.size + 1) = some (erO C hp.objs.size none) := by heap_get
  have W := (errW I).keeps kk'
  have new : ∀ {b : Addr} {o : Obj}, hp.get? b = some o → hp.objs.size + 1 ≠ b := fun {b o} z => Nat.ne_of_gt (Nat.lt_of_lt_of_le (Heap.lt_size z) hsz)
  obtain ⟨og, g1⟩ : ∃ o, hp.get? mainGlobals = some o := by
    obtain ⟨o, _, _, z, _⟩ := (errW I).glob
    exact ⟨o, z⟩
  obtain ⟨ob, g2⟩ : ∃ o, hp.get? builtinsNs = some o := by
    obtain ⟨mb, ⟨o, _, _, z, _⟩, _⟩ := (errW I).blt
    exact ⟨o, z⟩
  refine wpAny_call (PySem.HandSPX.call_own T.f.bf hT (I.kIn _ _ hC) (PySem.W.looks_findIn I.kIn T.f.ini) (fun self => PySem.W.bind_fn I.kIn self T.f.tI) (by rw [sizeLine_eq]; show 1 ≤ _; decide) ?_)
  refine err_init1 (s := ⟨_, g, dr, tk, os⟩) (t0 := hp.objs.size) T.f T.s hev D hfn hbody (hr.make C [u] []).depth W (I.nolimit.keeps kk') ?_ (new g1) (new g2) hget fun s' F => ?_
  · cases z : X.K.lookup (hp.objs.size + 1) with
    | none => rfl
    | some o => exact absurd rfl (new (I.kIn _ _ z))
  · obtain ⟨k, ⟨t, d, h1, h2, h3, h4⟩, hg, ho⟩ := F
    have hlt := Heap.lt_size hget
    exact ⟨rfl, h _ t d s' hsz (Nat.le_trans (Nat.le_of_lt (Nat.lt_of_succ_lt hlt)) h3) h4 (fun b o z => k b o (new z).symm (kk' b o z)) h1 h2 hg ho⟩
/-- C(x, y) is made -/
theorem err_make2 {u u2 : Value} {R : Value → Shared → Prop} {E : Value → Shared → Prop} (T : ErrT X.prog X.K X.mg C fI B newId initId bmB ["self", x, y] params body scope) (hev : SupOk scope txt kk p0 p1 p2 p3 p4) (D : Sto scope x f q1 q2 q3 q4) (D2 : Sto scope y f2 r1 r2 r3 r4) (hfn : PySem.W.findIn X.K (.ref C) f = some none) (hfn2 : PySem.W.findIn X.K (.ref C) f2 = some none)
    (hbody : body = [.Expr (supE txt kk p0 p1 p2 p3 p4) p5, .Assign [.Attribute (.Name "self" q1) f q2] (.Name x q3) q4, .Assign [.Attribute (.Name "self" r1) f2 r2] (.Name y r3) r4]) (hr : Room 1 X.A) (I : L2.Inv X pins σ H1 s1)
    (h : ∀ (a t d : Addr) (s' : Shared), s1.heap.objs.size ≤ a → s1.heap.objs.size ≤ d → d ≠ a → (∀ b o, s1.heap.get? b = some o → s'.heap.get? b = some o) → s'.heap.get? a = some (erO C t (some d)) → s'.heap.Ns1 d (fun z => if z = f2 then some u2 else if z = f then some u else none) → s'.gens = s1.gens → s'.os = s1.os → R (.ref a) s') :
    wpAny (model X.prog X.w) X.A (call (.ref C) [u, u2]) R E s1 := by
  obtain ⟨nm, q, N, bs, bm, sn, sub, ab, col, dd, k0, k1, k2, k3, k5, hC, hT, hp⟩ := T.f.cls
  have hsz : s1.heap.objs.size ≤ s1.heap.objs.size + 1 := Nat.le_succ _
  have I0 := I
  obtain ⟨hp, g, dr, tk, os⟩ := s1
  have kk' : ∀ b o, hp.get? b = some o → ((hp.push (PySem.W.kdv_tup [u, u2])).push (PySem.HandSPX.excO C hp.objs.size)).get? b = some o := fun b o e => Heap.get?_push_of_some _ (Heap.get?_push_of_some _ e)
  have hget : ((hp.push (PySem.W.kdv_tup [u, u2])).push (PySem.HandSPX.excO C hp.objs.size)).get? (hp.objs.size + 1) = some (erO C hp.objs.size none) := by heap_get
  have W := (errW I).keeps kk'
  have new : ∀ {b : Addr} {o : Obj}, hp.get? b = some o → hp.objs.size + 1 ≠ b := fun {b o} z => Nat.ne_of_gt (Nat.lt_of_lt_of_le (Heap.lt_size z) hsz)
  obtain ⟨og, g1⟩ : ∃ o, hp.get? mainGlobals = some o := by
    obtain ⟨o, _, _, z, _⟩ := (errW I).glob
    exact ⟨o, z⟩
  obtain ⟨ob, g2⟩ : ∃ o, hp.get? builtinsNs = some o := by
    obtain ⟨mb, ⟨o, _, _, z, _⟩, _⟩ := (errW I).blt
    exact ⟨o, z⟩
  refine wpAny_call (PySem.HandSPX.call_own T.f.bf hT (I.kIn _ _ hC) (PySem.W.looks_findIn I.kIn T.f.ini) (fun self => PySem.W.bind_fn I.kIn self T.f.tI) (by rw [sizeLine_eq]; show 2 ≤ _; decide) ?_)
  refine err_init2 (s := ⟨_, g, dr, tk, os⟩) (t0 := hp.objs.size) T.f T.s hev D D2 hfn hfn2 hbody (hr.make C [u, u2] []).depth W (I.nolimit.keeps kk') ?_ (new g1) (new g2) hget fun s' F => ?_
  · cases z : X.K.lookup (hp.objs.size + 1) with
    | none => rfl
    | some o => exact absurd rfl (new (I.kIn _ _ z))
  · obtain ⟨k, ⟨t, d, h1, h2, h3, h4⟩, hg, ho⟩ := F
    have hlt := Heap.lt_size hget
    exact ⟨rfl, h _ t d s' hsz (Nat.le_trans (Nat.le_of_lt (Nat.lt_of_succ_lt hlt)) h3) h4 (fun b o z => k b o (new z).symm (kk' b o z)) h1 h2 hg ho⟩
/-- C() is made -/
theorem err_make0 {R : Value → Shared → Prop} {E : Value → Shared → Prop} (T : ErrT X.prog X.K X.mg C fI B newId initId bmB ["self"] params body scope) (hev : SupOk scope txt kk p0 p1 p2 p3 p4)
    (hbody : body = [.Expr (supE txt kk p0 p1 p2 p3 p4) p5]) (hr : Room 1 X.A) (I : L2.Inv X pins σ H1 s1)
    (h : ∀ (a t : Addr) (s' : Shared), s1.heap.objs.size ≤ a → (∀ b o, s1.heap.get? b = some o → s'.heap.get? b = some o) → s'.heap.get? a = some (erO C t none) → s'.gens = s1.gens → s'.os = s1.os → R (.ref a) s') :
    wpAny (model X.prog X.w) X.A (call (.ref C) []) R E s1 := by
  obtain ⟨nm, q, N, bs, bm, sn, sub, ab, col, dd, k0, k1, k2, k3, k5, hC, hT, hp⟩ := T.f.cls
  have hsz : s1.heap.objs.size ≤ s1.heap.objs.size + 1 := Nat.le_succ _
  have I0 := I
  obtain ⟨hp, g, dr, tk, os⟩ := s1
  have kk' : ∀ b o, hp.get? b = some o → ((hp.push (PySem.W.kdv_tup [])).push (PySem.HandSPX.excO C hp.objs.size)).get? b = some o := fun b o e => Heap.get?_push_of_some _ (Heap.get?_push_of_some _ e)
  have hget : ((hp.push (PySem.W.kdv_tup [])).push (PySem.HandSPX.excO C hp.objs.size)).get? (hp.objs.size + 1) = some (erO C hp.objs.size none) := by heap_get
  have W := (errW I).keeps kk'
  have new : ∀ {b : Addr} {o : Obj}, hp.get? b = some o → hp.objs.size + 1 ≠ b := fun {b o} z => Nat.ne_of_gt (Nat.lt_of_lt_of_le (Heap.lt_size z) hsz)
  obtain ⟨og, g1⟩ : ∃ o, hp.get? mainGlobals = some o := by
    obtain ⟨o, _, _, z, _⟩ := (errW I).glob
    exact ⟨o, z⟩
  obtain ⟨ob, g2⟩ : ∃ o, hp.get? builtinsNs = some o := by
    obtain ⟨mb, ⟨o, _, _, z, _⟩, _⟩ := (errW I).blt
    exact ⟨o, z⟩
  refine wpAny_call (PySem.HandSPX.call_own T.f.bf hT (I.kIn _ _ hC) (PySem.W.looks_findIn I.kIn T.f.ini) (fun self => PySem.W.bind_fn I.kIn self T.f.tI) (by rw [sizeLine_eq]; show 0 ≤ _; decide) ?_)
  refine err_init0 (s := ⟨_, g, dr, tk, os⟩) (t0 := hp.objs.size) T.f T.s hev hbody (hr.make C [] []).depth W (I.nolimit.keeps kk') ?_ (new g1) (new g2) hget fun s' t k h1 hg ho => ?_
  · cases z : X.K.lookup (hp.objs.size + 1) with
    | none => rfl
    | some o => exact absurd rfl (new (I.kIn _ _ z))
  · exact ⟨rfl, h _ t s' hsz (fun b o z => k b o (new z).symm (kk' b o z)) h1 hg ho⟩
/-- raise C(x): the error, its dict at d, new -/
def tMk1 (C : Addr) (f : Str) (ta : TA) : L2.St → Hp → XK → Prop := fun σ H Q => ta σ H fun vs H1 => ∃ v, vs = [v] ∧ ∀ d, H1 d = none → Q (.ref C) (some d) (upd H1 d (.xd [(f, v)]))
def tMk2 (C : Addr) (f f2 : Str) (ta : TA) : L2.St → Hp → XK → Prop := fun σ H Q => ta σ H fun vs H1 => ∃ v v2, vs = [v, v2] ∧ ∀ d, H1 d = none → Q (.ref C) (some d) (upd H1 d (.xd [(f2, v2), (f, v)]))
theorem relO1 {f : Str} {v : V} {u : Value} (r : RelV v u) (g : Str) : RelO (([(f, v)] : List (Str × V)).lookup g) (if g = f then some u else none) := relO_put (fs := []) (mA := fun _ => none) r (fun g => True.intro) g
theorem relO2 {f f2 : Str} {v v2 : V} {u u2 : Value} (r : RelV v u) (r2 : RelV v2 u2) (g : Str) : RelO (([(f2, v2), (f, v)] : List (Str × V)).lookup g) (if g = f2 then some u2 else if g = f then some u else none) := relO_put (fs := [(f, v)]) r2 (relO1 r) g
theorem pmk_err1 {e : Expr} {ta : TA} {p pos : Pos} (T : ErrT X.prog X.K X.mg C fI B newId initId bmB ["self", x] params body scope) (hev : SupOk scope txt kk p0 p1 p2 p3 p4) (D : Sto scope x f q1 q2 q3 q4) (hfn : PySem.W.findIn X.K (.ref C) f = some none)
    (hbody : body = [.Expr (supE txt kk p0 p1 p2 p3 p4) p5, .Assign [.Attribute (.Name "self" q1) f q2] (.Name x q3) q4]) (hr : Room 1 X.A) (hg : Gl X cn) (hm : X.mg cn = some (.ref C)) (ha : PA X [e] ta)
    (hdb : (cn == ("__debug__" : Str)) = false := by decide) (he : starEach [e] X.env = (false, eval e X.env) :: starEach [] X.env := by rfl) : PMk X (.Call (.Name cn p) [e] [] pos) (tMk1 C f ta) := by
  intro pins s σ H Q I h
  refine wpAny_Call_Name_kw (ld_glob I hg hm ?_ hdb)
  refine PySem.W.callWith_K (h₀ := X.base) I.ok.mod.kin T.f.kC (thn (ha.run pos pins s σ H _ I h) fun us s1 ⟨vs, H1, I1, r1, v, ev, q1⟩ => ⟨I1.kIn, ?_⟩) he rfl
  subst ev
  cases r1 with
  | @cons _ u _ ur ru rr =>
    cases rr
    show wpAny _ _ (call (.ref C) [u]) _ _ _
    refine err_make1 T hev D hfn hbody hr I1 fun a t d s' z1 z2 z3 z4 z5 z6 z7 z8 => ?_
    obtain ⟨G, J, kG, ge, na⟩ := err_inv I1 z1 z2 z3 z4 z6 (relO1 ru)
    exact ⟨a, _, _, _, _, .ref C, some d, rfl, J, kG, ge, z5, ⟨rfl, rfl⟩, rfl, rfl, na, z8, by rw [z7]; exact I1.bare, raises_own T.f.exC T.f.tyC, q1 d (I1.hok.fresh z2)⟩
theorem pmk_err2 {e e2 : Expr} {ta : TA} {p pos : Pos} (T : ErrT X.prog X.K X.mg C fI B newId initId bmB ["self", x, y] params body scope) (hev : SupOk scope txt kk p0 p1 p2 p3 p4) (D : Sto scope x f q1 q2 q3 q4) (D2 : Sto scope y f2 r1 r2 r3 r4) (hfn : PySem.W.findIn X.K (.ref C) f = some none) (hfn2 : PySem.W.findIn X.K (.ref C) f2 = some none)
    (hbody : body = [.Expr (supE txt kk p0 p1 p2 p3 p4) p5, .Assign [.Attribute (.Name "self" q1) f q2] (.Name x q3) q4, .Assign [.Attribute (.Name "self" r1) f2 r2] (.Name y r3) r4]) (hr : Room 1 X.A) (hg : Gl X cn) (hm : X.mg cn = some (.ref C)) (ha : PA X [e, e2] ta)
    (hdb : (cn == ("__debug__" : Str)) = false := by decide) (he : starEach [e, e2] X.env = (false, eval e X.env) :: starEach [e2] X.env := by rfl) (hpl : (backTo pos (starEach [e2] X.env)).any (·.1) = false := by rfl) : PMk X (.Call (.Name cn p) [e, e2] [] pos) (tMk2 C f f2 ta) := by
  intro pins s σ H Q I h
  refine wpAny_Call_Name_kw (ld_glob I hg hm ?_ hdb)
  refine PySem.W.callWith_K (h₀ := X.base) I.ok.mod.kin T.f.kC (thn (ha.run pos pins s σ H _ I h) fun us s1 ⟨vs, H1, I1, r1, v, v2, ev, q1⟩ => ⟨I1.kIn, ?_⟩) he hpl
  subst ev
  cases r1 with
  | @cons _ u _ ur ru rr =>
    cases rr with
    | @cons _ u2 _ ur2 ru2 rr =>
      cases rr
      show wpAny _ _ (call (.ref C) [u, u2]) _ _ _
      refine err_make2 T hev D D2 hfn hfn2 hbody hr I1 fun a t d s' z1 z2 z3 z4 z5 z6 z7 z8 => ?_
      obtain ⟨G, J, kG, ge, na⟩ := err_inv I1 z1 z2 z3 z4 z6 (relO2 ru ru2)
      exact ⟨a, _, _, _, _, .ref C, some d, rfl, J, kG, ge, z5, ⟨rfl, rfl⟩, rfl, rfl, na, z8, by rw [z7]; exact I1.bare, raises_own T.f.exC T.f.tyC, q1 d (I1.hok.fresh z2)⟩
end
end L3
/-! == and != of lists of own objects. -/
namespace L3
open PySem PySem.Spec PyProof.Rows L2
open MeetsSeq MeetsSeq2 MeetsSeq3 SeqRoads2
open AutoSeq1 (wpAny_loadPart')
/-- x == y answers b, and nothing changes -/
def EqStep (X : Cx) (H : Hp) (x y : V) (b : Bool) : Prop := ∀ (pins : List (Addr × Obj)) (s : Shared) (σ : L2.St) (H' : Hp) (u v : Value) (Q : Bool → Shared → Prop) (E' : Value → Shared → Prop), L2.Inv X pins σ H' s → Same H H' → RelV x u → RelV y v →
  (∀ H'' s', L2.Inv X pins σ H'' s' → Same H' H'' → Q b s') → wpAny (model X.prog X.w) X.A.in1 (eqBool u v) Q E' s
section
variable {X : Cx} {C f : Addr} {fd : FuncData} {k : Nat} {sp : Sp} {y : Str}
theorem EqStep.self {H : Hp} {a : Addr} : EqStep X H (.ref a) (.ref a) true := by
  intro pins s σ H' u v Q E' I sm r1 r2 h
  cases r1
  cases r2
  unfold eqBool
  refine wpAny_holding ?_
  exact wpAny_ite_split (fun _ => wpAny_bind (wpAny_rule (wpAny_pure (h H' s I (Same.refl _))))) (fun z => (z (by simp)).elim)
theorem EqStep.own {H : Hp} {a b : Addr} {z : Bool} (F : FnOkG X.prog X.w X.K X.mg X.base CX0 k f fd ["self", y] sp) (hr : Room (k + 1) X.A) (hG : X.A.guards = some []) (hb : L2.Binds X.K fd ["self", y] []) (m : Meth X.K C "__eq__" f) (hne : a ≠ b)
    (hn : PySem.W.notFirst X.K C (.ref C) = true) (h : ∀ H', Same H H' → (∃ dx fs, H' a = some (.ins C dx fs)) ∧ (∃ dx fs, H' b = some (.ins C dx fs)) ∧ sp [.ref a, .ref b] H' (fun v H'' => v = .bl z ∧ Same H' H'') E0) : EqStep X H (.ref a) (.ref b) z := by
  intro pins s σ H' u v Q E' I sm r1 r2 hQ
  cases r1
  cases r2
  obtain ⟨⟨dx, fs, ha⟩, ⟨dy, gs, hb'⟩, h⟩ := h H' sm
  obtain ⟨mA, O, _⟩ := ins_get I.hok ha
  obtain ⟨od, J, _⟩ := O.look
  obtain ⟨mB, O2, _⟩ := ins_get I.hok hb'
  obtain ⟨od2, J2, _⟩ := O2.look
  obtain ⟨mm, FF⟩ := I.fr
  unfold eqBool
  refine wpAny_holding ?_
  refine wpAny_ite_split (fun hab => absurd (by have := eq_of_beq hab; injection this) hne) (fun _ => ?_)
  refine wpAny_bind ?_
  have hu := hr.units
  refine PySem.W.cmp_K (op := .Eq) (by show X.A.units + 1 < cLine; omega) FF I.ok.mod.kin J J2.type hn m.at_ m.fn ?_
  refine run_own (vs := [.ref a, .ref b]) (us := [.ref a, .ref b]) F hr hG hb I (.cons rfl (.cons rfl .nil)) h fun w s' hq => ?_
  obtain ⟨v, H2, I2, rv, rfl, sm2⟩ := hq
  cases rv
  exact (show wpAny _ _ (truthy (.bool z)) _ _ _ from wpAny_truthy_bool (hQ H2 s' I2 sm2))
end
theorem rel_at {xs : List V} {us : List Value} (r : Vals xs us) : ∀ {i : Nat} {x : V} {u : Value}, xs[i]? = some x → us[i]? = some u → RelV x u := by
  induction r with
  | nil => intro i x u h; simp at h
  | cons a _ ih =>
    intro i x u h1 h2
    cases i with
    | zero => simp at h1 h2; subst h1 h2; exact a
    | succ i => simp at h1 h2; exact ih h1 h2
section
variable {X : Cx} {pins : List (Addr × Obj)} {σ : L2.St} {H : Hp} {l r : Addr} {L M : List V} {e : Nat → Bool}
theorem eqL_loop (hl : ∀ H', Same H H' → SqL X.K H' l L) (hr : ∀ H', Same H H' → SqL X.K H' r M) (hz : L.length = M.length) (he : ∀ i x y, L[i]? = some x → M[i]? = some y → EqStep X H x y (e i)) {R : Result → Shared → Prop} (hR : ∀ H' s', L2.Inv X pins σ H' s' → Same H H' → R (.ok (.ret (.bool ((List.range L.length).all e)))) s') :
    ∀ (k i : Nat) (s : Shared) (H' : Hp), L.length - i = k → i ≤ L.length → (List.range i).all e = true → L2.Inv X pins σ H' s → Same H H' →
    wpAny (model X.prog X.w) X.A.in1 (Builtin.«list.__eq__.loop» ⟨[.ref l, .ref r, rawInt i, rawInt 2], []⟩) (fun fin s' => match fin with | .done f => R (.ok f) s' | .again c' => c'.quiet = true ∧ codeAny (model X.prog X.w) X.A c' R s') (fun ex s' => R (.error ex) s') s := by
  intro k
  induction k with
  | zero =>
    intro i s H' hk hi hall I sm
    have hie : i = L.length := by omega
    obtain ⟨its, r1, pl, hz1⟩ := I.list (hl H' sm)
    obtain ⟨jts, r2, pm, hz2⟩ := I.list (hr H' sm)
    have n1 := r1.length
    have n2 := r2.length
    obtain ⟨⟨c1, d1, da1, s1⟩, ho1, hc1, m1, hd1⟩ := id pl.isList
    obtain ⟨⟨c2, d2, da2, s2⟩, ho2, hc2, m2, hd2⟩ := id pm.isList
    simp only at hc1 hd1 hc2 hd2
    subst hc1 hd1 hc2 hd2
    have I0 := I
    obtain ⟨hp, g, d, tk, os⟩ := s
    have a1 : its.toArray[((i : Nat) : Int).toNat]? = none := by simp; omega
    have a2 : jts.toArray[((i : Nat) : Int).toNat]? = none := by simp; omega
    wp_walk using wpAny_loadPart' ho1, wpAny_loadPart' ho2
    rw [a1, a2]
    wp_walk using wpAny_loadPart' ho1, wpAny_loadPart' ho2
    show R (.ok (.ret (.bool (its.toArray.size == jts.toArray.size)))) _
    have q := hR H' _ I0 sm
    rw [← hie, hall] at q
    rw [show (its.toArray.size == jts.toArray.size) = true by simp; omega]
    exact q
  | succ k ih =>
    intro i s H' hk hi hall I sm
    have hlt : i < L.length := by omega
    obtain ⟨its, r1, pl, hz1⟩ := I.list (hl H' sm)
    obtain ⟨jts, r2, pm, hz2⟩ := I.list (hr H' sm)
    have n1 := r1.length
    have n2 := r2.length
    obtain ⟨⟨c1, d1, da1, s1⟩, ho1, hc1, m1, hd1⟩ := id pl.isList
    obtain ⟨⟨c2, d2, da2, s2⟩, ho2, hc2, m2, hd2⟩ := id pm.isList
    simp only at hc1 hd1 hc2 hd2
    subst hc1 hd1 hc2 hd2
    have hi1 : i < its.length := by omega
    have hi2 : i < jts.length := by omega
    have a1 : its.toArray[((i : Nat) : Int).toNat]? = some its[i] := by simp [hi1]
    have a2 : jts.toArray[((i : Nat) : Int).toNat]? = some jts[i] := by simp [hi2]
    have I0 := I
    obtain ⟨hp, g, d, tk, os⟩ := s
    wp_walk using wpAny_loadPart' ho1, wpAny_loadPart' ho2
    rw [a1, a2]
    obtain ⟨x, hx⟩ : ∃ x, L[i]? = some x := ⟨L[i], List.getElem?_eq_getElem hlt⟩
    obtain ⟨y, hy⟩ : ∃ y, M[i]? = some y := ⟨M[i]'(by omega), List.getElem?_eq_getElem (by omega)⟩
    have rx := rel_at r1 hx (List.getElem?_eq_getElem hi1)
    have ry := rel_at r2 hy (List.getElem?_eq_getElem hi2)
    refine wpAny_bind (he i x y hx hy pins _ σ H' _ _ _ _ I0 sm rx ry fun H2 s2 I2 sm2 => ?_)
    have sm' := sm.trans sm2
    have hc : ((i : Int) + 1) = ((i + 1 : Nat) : Int) := by push_cast; rfl
    cases hb : e i with
    | true =>
      obtain ⟨hp2, g2, d2, tk2, os2⟩ := s2
      wp_walk
      rw [hc]
      refine ⟨plainId_quiet plain_eq_loop _, codeAny_builtin entry_eq_loop ?_⟩
      rw [Around.under_plainId plain_eq_loop _]
      exact ih (i + 1) _ H2 (by omega) hlt (by rw [List.range_succ, List.all_append, hall]; simp [hb]) I2 sm'
    | false =>
      obtain ⟨its', r1', pl', _⟩ := I2.list (hl H2 sm')
      obtain ⟨jts', r2', pm', _⟩ := I2.list (hr H2 sm')
      have n1' := r1'.length
      have n2' := r2'.length
      obtain ⟨⟨c1', d1', da1', s1'⟩, ho1', hc1', m1', hd1'⟩ := id pl'.isList
      obtain ⟨⟨c2', d2', da2', s2'⟩, ho2', hc2', m2', hd2'⟩ := id pm'.isList
      simp only at hc1' hd1' hc2' hd2'
      subst hc1' hd1' hc2' hd2'
      have hi1' : i < its'.length := by omega
      have hi2' : i < jts'.length := by omega
      have b1 : its'.toArray[((i : Nat) : Int).toNat]? = some its'[i] := by simp [hi1']
      have b2 : jts'.toArray[((i : Nat) : Int).toNat]? = some jts'[i] := by simp [hi2']
      have q := hR H2 _ I2 sm'
      rw [show (List.range L.length).all e = false from List.all_eq_false.mpr ⟨i, List.mem_range.mpr hlt, by rw [hb]; decide⟩] at q
      obtain ⟨hp2, g2, d2, tk2, os2⟩ := s2
      wp_walk using wpAny_loadPart' ho1', wpAny_loadPart' ho2'
      rw [b1, b2]
      wp_walk
      exact q
/-- list == list -/
theorem op_eqL (hu : X.A.units + 64 < cLine) : OpR X (compareOp .Eq) (fun x y H Q => ∃ (l r : Addr) (L M : List V) (e : Nat → Bool), x = .ref l ∧ y = .ref r ∧ (∀ H', Same H H' → SqL X.K H' l L) ∧ (∀ H', Same H H' → SqL X.K H' r M) ∧ L.length = M.length ∧
    (∀ i x y, L[i]? = some x → M[i]? = some y → EqStep X H x y (e i)) ∧ ∀ H', Same H H' → Q (.bl ((List.range L.length).all e)) H') := by
  intro pins s σ H x y v u Q I rx ry h
  obtain ⟨l, r, L, M, e, rfl, rfl, hl, hr, hz, he, q⟩ := h
  cases rx
  cases ry
  obtain ⟨its, r1, pl, hz1⟩ := I.list (hl H (Same.refl _))
  obtain ⟨jts, r2, pm, hz2⟩ := I.list (hr H (Same.refl _))
  have n1 := r1.length
  have n2 := r2.length
  obtain ⟨⟨c1, d1, da1, s1⟩, ho1, hc1, m1, hd1⟩ := id pl.isList
  obtain ⟨⟨c2, d2, da2, s2⟩, ho2, hc2, m2, hd2⟩ := id pm.isList
  simp only at hc1 hd1 hc2 hd2
  subst hc1 hd1 hc2 hd2
  show wpAny _ _ (richCompare .Eq (.ref l) (.ref r)) _ _ _
  refine wpAny_richCompare_same_room (T := "list") (op := .Eq) ⟨_, ho1, rfl⟩ ⟨_, ho2, rfl⟩ F.slot_list_eq ?_ (by omega)
  refine wpAny_call (codeAny_call_builtin F.slot_list_eq.plain F.entry_list_eq (F.slot_list_eq.check _ _ _ _ _ _ _ _ ⟨_, ho1, rfl⟩ (F.args_list_eq_2 _ _) ?_))
  have I0 := I
  obtain ⟨hp, g, d, tk, os⟩ := s
  have f3 := AutoSeq1.sub_list_list
  have hne : ¬ (its.toArray.size != jts.toArray.size) = true := by simp; omega
  wp_walk using wpAny_loadPart' ho1, wpAny_loadPart' ho2
  refine wpAny_ite_split (fun z => absurd z hne) (fun _ => wpAny_pure ?_)
  refine ⟨plainId_quiet plain_eq_loop _, codeAny_builtin entry_eq_loop ?_⟩
  rw [Around.under_plainId plain_eq_loop _]
  have key := eqL_loop (H := H) (pins := pins) (σ := σ) hl hr hz he (R := fun r s' => match r with | .ok (.ret v) => v ≠ .notImplemented ∧ EP X pins σ Q v s' | .ok _ => False | .error e => X.xe e s') (fun H' s' I' sm => ⟨(fun z => by cases z), .bl _, H', I', rfl, q H' sm⟩) _ 0 _ H rfl (Nat.zero_le _) rfl I0 (Same.refl _)
  exact key
theorem neL_loop (hl : ∀ H', Same H H' → SqL X.K H' l L) (hr : ∀ H', Same H H' → SqL X.K H' r M) (hz : L.length = M.length) (he : ∀ i x y, L[i]? = some x → M[i]? = some y → EqStep X H x y (e i)) {R : Result → Shared → Prop} (hR : ∀ H' s', L2.Inv X pins σ H' s' → Same H H' → R (.ok (.ret (.bool (!(List.range L.length).all e)))) s') :
    ∀ (k i : Nat) (s : Shared) (H' : Hp), L.length - i = k → i ≤ L.length → (List.range i).all e = true → L2.Inv X pins σ H' s → Same H H' →
    wpAny (model X.prog X.w) X.A.in1 (Builtin.«list.__eq__.loop» ⟨[.ref l, .ref r, rawInt i, rawInt 3], []⟩) (fun fin s' => match fin with | .done f => R (.ok f) s' | .again c' => c'.quiet = true ∧ codeAny (model X.prog X.w) X.A c' R s') (fun ex s' => R (.error ex) s') s := by
  intro k
  induction k with
  | zero =>
    intro i s H' hk hi hall I sm
    have hie : i = L.length := by omega
    obtain ⟨its, r1, pl, hz1⟩ := I.list (hl H' sm)
    obtain ⟨jts, r2, pm, hz2⟩ := I.list (hr H' sm)
    have n1 := r1.length
    have n2 := r2.length
    obtain ⟨⟨c1, d1, da1, s1⟩, ho1, hc1, m1, hd1⟩ := id pl.isList
    obtain ⟨⟨c2, d2, da2, s2⟩, ho2, hc2, m2, hd2⟩ := id pm.isList
    simp only at hc1 hd1 hc2 hd2
    subst hc1 hd1 hc2 hd2
    have I0 := I
    obtain ⟨hp, g, d, tk, os⟩ := s
    have a1 : its.toArray[((i : Nat) : Int).toNat]? = none := by simp; omega
    have a2 : jts.toArray[((i : Nat) : Int).toNat]? = none := by simp; omega
    wp_walk using wpAny_loadPart' ho1, wpAny_loadPart' ho2
    rw [a1, a2]
    wp_walk using wpAny_loadPart' ho1, wpAny_loadPart' ho2
    show R (.ok (.ret (.bool (its.toArray.size != jts.toArray.size)))) _
    have q := hR H' _ I0 sm
    rw [← hie, hall] at q
    rw [show (its.toArray.size != jts.toArray.size) = false by simp; omega]
    exact q
  | succ k ih =>
    intro i s H' hk hi hall I sm
    have hlt : i < L.length := by omega
    obtain ⟨its, r1, pl, hz1⟩ := I.list (hl H' sm)
    obtain ⟨jts, r2, pm, hz2⟩ := I.list (hr H' sm)
    have n1 := r1.length
    have n2 := r2.length
    obtain ⟨⟨c1, d1, da1, s1⟩, ho1, hc1, m1, hd1⟩ := id pl.isList
    obtain ⟨⟨c2, d2, da2, s2⟩, ho2, hc2, m2, hd2⟩ := id pm.isList
    simp only at hc1 hd1 hc2 hd2
    subst hc1 hd1 hc2 hd2
    have hi1 : i < its.length := by omega
    have hi2 : i < jts.length := by omega
    have a1 : its.toArray[((i : Nat) : Int).toNat]? = some its[i] := by simp [hi1]
    have a2 : jts.toArray[((i : Nat) : Int).toNat]? = some jts[i] := by simp [hi2]
    have I0 := I
    obtain ⟨hp, g, d, tk, os⟩ := s
    wp_walk using wpAny_loadPart' ho1, wpAny_loadPart' ho2
    rw [a1, a2]
    obtain ⟨x, hx⟩ : ∃ x, L[i]? = some x := ⟨L[i], List.getElem?_eq_getElem hlt⟩
    obtain ⟨y, hy⟩ : ∃ y, M[i]? = some y := ⟨M[i]'(by omega), List.getElem?_eq_getElem (by omega)⟩
    have rx := rel_at r1 hx (List.getElem?_eq_getElem hi1)
    have ry := rel_at r2 hy (List.getElem?_eq_getElem hi2)
    refine wpAny_bind (he i x y hx hy pins _ σ H' _ _ _ _ I0 sm rx ry fun H2 s2 I2 sm2 => ?_)
    have sm' := sm.trans sm2
    have hc : ((i : Int) + 1) = ((i + 1 : Nat) : Int) := by push_cast; rfl
    cases hb : e i with
    | true =>
      obtain ⟨hp2, g2, d2, tk2, os2⟩ := s2
      wp_walk
      rw [hc]
      refine ⟨plainId_quiet plain_eq_loop _, codeAny_builtin entry_eq_loop ?_⟩
      rw [Around.under_plainId plain_eq_loop _]
      exact ih (i + 1) _ H2 (by omega) hlt (by rw [List.range_succ, List.all_append, hall]; simp [hb]) I2 sm'
    | false =>
      obtain ⟨its', r1', pl', _⟩ := I2.list (hl H2 sm')
      obtain ⟨jts', r2', pm', _⟩ := I2.list (hr H2 sm')
      have n1' := r1'.length
      have n2' := r2'.length
      obtain ⟨⟨c1', d1', da1', s1'⟩, ho1', hc1', m1', hd1'⟩ := id pl'.isList
      obtain ⟨⟨c2', d2', da2', s2'⟩, ho2', hc2', m2', hd2'⟩ := id pm'.isList
      simp only at hc1' hd1' hc2' hd2'
      subst hc1' hd1' hc2' hd2'
      have hi1' : i < its'.length := by omega
      have hi2' : i < jts'.length := by omega
      have b1 : its'.toArray[((i : Nat) : Int).toNat]? = some its'[i] := by simp [hi1']
      have b2 : jts'.toArray[((i : Nat) : Int).toNat]? = some jts'[i] := by simp [hi2']
      have q := hR H2 _ I2 sm'
      rw [show (List.range L.length).all e = false from List.all_eq_false.mpr ⟨i, List.mem_range.mpr hlt, by rw [hb]; decide⟩] at q
      obtain ⟨hp2, g2, d2, tk2, os2⟩ := s2
      wp_walk using wpAny_loadPart' ho1', wpAny_loadPart' ho2'
      rw [b1, b2]
      wp_walk
      exact q
/-- list != list -/
theorem op_neL (hu : X.A.units + 64 < cLine) : OpR X (compareOp .NotEq) (fun x y H Q => ∃ (l r : Addr) (L M : List V) (e : Nat → Bool), x = .ref l ∧ y = .ref r ∧ (∀ H', Same H H' → SqL X.K H' l L) ∧ (∀ H', Same H H' → SqL X.K H' r M) ∧ L.length = M.length ∧
    (∀ i x y, L[i]? = some x → M[i]? = some y → EqStep X H x y (e i)) ∧ ∀ H', Same H H' → Q (.bl (!(List.range L.length).all e)) H') := by
  intro pins s σ H x y v u Q I rx ry h
  obtain ⟨l, r, L, M, e, rfl, rfl, hl, hr, hz, he, q⟩ := h
  cases rx
  cases ry
  obtain ⟨its, r1, pl, hz1⟩ := I.list (hl H (Same.refl _))
  obtain ⟨jts, r2, pm, hz2⟩ := I.list (hr H (Same.refl _))
  have n1 := r1.length
  have n2 := r2.length
  obtain ⟨⟨c1, d1, da1, s1⟩, ho1, hc1, m1, hd1⟩ := id pl.isList
  obtain ⟨⟨c2, d2, da2, s2⟩, ho2, hc2, m2, hd2⟩ := id pm.isList
  simp only at hc1 hd1 hc2 hd2
  subst hc1 hd1 hc2 hd2
  show wpAny _ _ (richCompare .NotEq (.ref l) (.ref r)) _ _ _
  refine wpAny_richCompare_same_room (T := "list") (op := .NotEq) ⟨_, ho1, rfl⟩ ⟨_, ho2, rfl⟩ F.slot_list_ne ?_ (by omega)
  refine wpAny_call (codeAny_call_builtin F.slot_list_ne.plain F.entry_list_ne (F.slot_list_ne.check _ _ _ _ _ _ _ _ ⟨_, ho1, rfl⟩ (F.args_list_ne_2 _ _) ?_))
  have I0 := I
  obtain ⟨hp, g, d, tk, os⟩ := s
  have f3 := AutoSeq1.sub_list_list
  have hne : ¬ (its.toArray.size != jts.toArray.size) = true := by simp; omega
  wp_walk using wpAny_loadPart' ho1, wpAny_loadPart' ho2
  refine wpAny_ite_split (fun z => absurd z hne) (fun _ => wpAny_pure ?_)
  refine ⟨plainId_quiet plain_eq_loop _, codeAny_builtin entry_eq_loop ?_⟩
  rw [Around.under_plainId plain_eq_loop _]
  have key := neL_loop (H := H) (pins := pins) (σ := σ) hl hr hz he (R := fun r s' => match r with | .ok (.ret v) => v ≠ .notImplemented ∧ EP X pins σ Q v s' | .ok _ => False | .error e => X.xe e s') (fun H' s' I' sm => ⟨(fun z => by cases z), .bl _, H', I', rfl, q H' sm⟩) _ 0 _ H rfl (Nat.zero_le _) rfl I0 (Same.refl _)
  exact key
end
end L3
/-! repr of lists that hold own objects. -/
namespace L3
open PySem PySem.Spec PyProof.Rows L2
/-- each list whose repr is under way holds an own object -/
def GOk (H : Hp) (g : List Code) : Prop := ∀ id v rest kw, Code.builtin id ⟨v :: rest, kw⟩ ∈ g → ∃ (l m C dx : Addr) (xs : List V) (fs : List (Str × V)), v = .ref l ∧ H l = some (.lst xs) ∧ V.ref m ∈ xs ∧ H m = some (.ins C dx fs)
theorem GOk.nil (H : Hp) : GOk H [] := fun _ _ _ _ h => nomatch h
theorem GOk.same {H H' : Hp} {g : List Code} (h : GOk H g) (s : Same H H') : GOk H' g := fun id v rest kw hm => by
  obtain ⟨l, m, C, dx, xs, fs, h1, h2, h3, h4⟩ := h id v rest kw hm
  exact ⟨l, m, C, dx, xs, fs, h1, s _ _ h2, h3, s _ _ h4⟩
theorem GOk.cons {H : Hp} {g : List Code} {id : String} {rest : List Value} {kw : List (Str × Value)} {l m C dx : Addr} {xs : List V} {fs : List (Str × V)} (h : GOk H g) (h2 : H l = some (.lst xs)) (h3 : V.ref m ∈ xs) (h4 : H m = some (.ins C dx fs)) : GOk H (.builtin id ⟨.ref l :: rest, kw⟩ :: g) := fun id' v' rest' kw' hm => by
  rcases List.mem_cons.mp hm with e | hm
  · cases e
    exact ⟨l, m, C, dx, xs, fs, rfl, h2, h3, h4⟩
  · exact h _ _ _ _ hm
theorem reads_mem {h : Heap} : ∀ {vs : List Value} {ds : List PyData} {as : List Addr}, ReadsAll h vs ds as → ∀ v ∈ vs, ∃ d as', Reads h v d as'
  | _, _, _, .nil, v, hv => nomatch hv
  | _, _, _, .cons r rs, v, hv => by
    rcases List.mem_cons.mp hv with rfl | hv
    · exact ⟨_, _, r⟩
    · exact reads_mem rs v hv
theorem vals_mem : ∀ {xs : List V} {us : List Value}, Vals xs us → ∀ {m : Addr}, V.ref m ∈ xs → Value.ref m ∈ us
  | _, _, .nil, m, h => nomatch h
  | _, _, .cons r t, m, h => by
    rcases List.mem_cons.mp h with e | h
    · subst e
      cases r
      exact List.mem_cons_self
    · exact List.mem_cons_of_mem _ (vals_mem t h)
section
variable {X : Cx} {pins : List (Addr × Obj)} {σ : L2.St} {H : Hp} {s : Shared} {g : List Code}
/-- what can be read as data is none of these lists -/
theorem gok_clear (I : L2.Inv X pins σ H s) (hg : GOk H g) {b : Addr} {d : PyData} {as : List Addr} (r : Reads s.heap (.ref b) d as) : Clear g b := fun id v rest kw hm z => by
  obtain ⟨l, m, C, dx, xs, fs, h1, h2, h3, h4⟩ := hg id v rest kw hm
  rw [h1] at z
  obtain rfl := Value.ref.inj z
  obtain ⟨_, its, n, rv, hl⟩ := I.hok _ _ h2
  obtain ⟨mA, O, _⟩ := ins_get I.hok h4
  have hm' := vals_mem rv h3
  have hmo : s.heap.get? m = some (PySem.W.instObj C dx) := by
    obtain ⟨_, _, _, q, _⟩ := I.hok _ _ h4
    exact q
  cases r with
  | list q1 q2 q3 q4 =>
    rw [hl] at q1
    cases q1
    have e3 : Data.seq its.toArray n = Data.seq _ _ := q3
    cases e3
    obtain ⟨d', as', r'⟩ := reads_mem q4 (.ref m) (by simpa using hm')
    cases r' with
    | list w1 w2 _ _ => rw [hmo] at w1; cases w1; cases w2
    | tuple w1 w2 _ _ => rw [hmo] at w1; cases w1; cases w2
    | dict w1 w2 _ _ _ => rw [hmo] at w1; cases w1; cases w2
  | tuple q1 q2 q3 q4 => rw [hl] at q1; cases q1; exact absurd (Value.type.inj q2) (by decide)
  | dict q1 q2 q3 q4 q5 => rw [hl] at q1; cases q1; exact absurd (Value.type.inj q2) (by decide)
end
/-- an around that stands under X.A, with the guards g -/
structure AIn (X : Cx) (k : Nat) (g : List Code) (A : Around) : Prop where
  room : Room k A
  gd : A.guards = some g
  env : ∀ {pins : List (Addr × Obj)} {σ : L2.St} {H : Hp} {s : Shared}, L2.Inv X pins σ H s → Env0 X.prog X.w X.K X.mg X.base A X.stack s H
theorem AIn.base {X : Cx} {k : Nat} {g : List Code} (hr : Room k X.A) (hg : X.A.guards = some g) : AIn X k g X.A := ⟨hr, hg, fun I => I.env0⟩
theorem AIn.in1 {X : Cx} {k : Nat} {g : List Code} {A : Around} (h : AIn X (k + 1) g A) : AIn X k g A.in1 := ⟨h.room.in1, h.gd, fun I => (h.env I).in1⟩
theorem AIn.mono {X : Cx} {j k : Nat} {g : List Code} {A : Around} (h : AIn X k g A) (hj : j ≤ k) : AIn X j g A := ⟨h.room.mono hj, h.gd, h.env⟩
theorem depth_list_loop (A : Around) (args : Args) : (A.under (.builtin "list.__repr__.loop" args)).depth = A.depth + 1 := by
  first | rfl | simp [Around.under, Code.weight, Code.isCreation, Code.isGuard, Code.isCaller, Code.frames, Code.isFrame, guardIds]
theorem AIn.loop {X : Cx} {k : Nat} {g : List Code} {A : Around} (h : AIn X (k + 1) g A) (args : Args) : AIn X k (.builtin "list.__repr__.loop" args :: g) (A.under (.builtin "list.__repr__.loop" args)) := by
  refine ⟨⟨h.room.hd, ?_, ?_⟩, guards_under_guard (isGuard_list_loop _) h.gd, fun I => ?_⟩
  · rw [depth_list_loop]; have := h.room.dp; omega
  · rw [units_under_list_loop]; have := h.room.un; omega
  · have e := h.env I
    exact ⟨by first | exact e.frames | (simpa [Around.under, Code.envs, Code.isFrame, pushEnvs] using e.frames), e.mod, e.bs, e.bsz, e.funs, e.frf, e.hok, e.bare⟩
/-- repr(x) is t, and nothing changes -/
def ReprStep (X : Cx) (k : Nat) (H : Hp) (x : V) (t : Str) : Prop := ∀ (base : Nat) (A : Around) (g : List Code) (pins : List (Addr × Obj)) (s : Shared) (σ : L2.St) (H' : Hp) (u : Value) (Q : Str → Shared → Prop) (E' : Value → Shared → Prop), base + t.length ≤ sizeLine → AIn X k g A → GOk H' g → L2.Inv X pins σ H' s → Same H H' → RelV x u →
  (∀ H'' s', L2.Inv X pins σ H'' s' → Same H' H'' → Q t s') → wpAny (model X.prog X.w) A (pyReprUnder base u) Q E' s
section
variable {X : Cx} {k : Nat} {H : Hp}
theorem ReprStep.data {x : V} {d : PyData} (hd : Dp X.K H x d) (hs : d.showable = true) (hz : d.shown.length ≤ sizeLine) (hp : d.depth ≤ 50) : ReprStep X k H x d.shown := by
  intro base A g pins s σ H' u Q E' hb hA hg I sm rx hQ
  have hd' := Dp.same sm hd
  obtain ⟨as, r⟩ := Dp.reads I d x u hd' rx
  obtain ⟨bs, hbs, hk⟩ := ReprK.of_reads (prog := X.prog) (w := X.w) r hs (PyData.noDict_hsm (dp_noDict (K := X.K) (H := H') hd')) hz
  have hu := hA.room.units
  refine hk base hb A g E' s Q hA.gd (fun b hbm => ?_) (by omega) (fun _ _ e => e) fun h' tk kk => hQ H' _ (I.kept kk) (Same.refl _)
  obtain ⟨d', as', r', _⟩ := hbs b hbm
  exact gok_clear I hg r'
end
/-- a def that is called while reprs are under way -/
structure FnOkH (P : Program) (w : World) (K : PySem.W.Frag) (mg : Str → Option Value) (base : Heap) (CX : CXT) (k : Nat) (f : Addr) (fd : FuncData) (ps : List Str) (sp : Sp) : Prop where
  len : ∀ vs H Q E, sp vs H Q E → vs.length = ps.length
  run : ∀ (A : Around) (outer : List Env) (s : Shared) (H : Hp) (args : Args) (us : List Value) (vs : List V) (Q : VK) (E : XK) (g : List Code), Room k A → A.guards = some g → GOk H g → Env0 P w K mg base A outer s H → BindsTo s fd args (ps.zip us) → Vals vs us → sp vs H Q E →
    codeAny (model P w) A (.call (.ref f) args) (CR CX outer P w H s Q E) s
theorem FnOkH.toG {P : Program} {w : World} {K : PySem.W.Frag} {mg : Str → Option Value} {base : Heap} {CX : CXT} {k : Nat} {f : Addr} {fd : FuncData} {ps : List Str} {sp : Sp} (F : FnOkH P w K mg base CX k f fd ps sp) : FnOkG P w K mg base CX k f fd ps sp :=
  ⟨F.len, fun A outer s H args us vs Q E hr hg => F.run A outer s H args us vs Q E [] hr hg (GOk.nil H)⟩
theorem okH {P : Program} {w : World} {K : PySem.W.Frag} {mg : Str → Option Value} {base : Heap} {x qual : Str} {st : Stmt} {f : Addr} {fd : FuncData} {N ps : List Str} {k : Nat} {sp : Sp} (F : Fun K x qual st f fd) (S : FnScope N ps (defScope st)) (len : ∀ vs H Q E, sp vs H Q E → vs.length = ps.length)
    (hbody : ∀ (cdv : Value) (A : Around) (outer : List Env) (s : Shared) (H : Hp) (vs : List V) (Q : VK) (E : XK) (g : List Code), Room k (A.deeper (envOfC qual (defScope st) s.heap.objs.size f cdv)) → A.guards = some g → GOk H g → sp vs H Q E →
      ∃ t, PSs (cxOf CX0 P w K mg base N qual (defScope st) f cdv A outer s H E).nox (defBody st) t ∧ t { nx := fun _ H' => Q .non H', rt := Q } (L2.start N vs) H) : FnOkH P w K mg base CX0 (k + 1) f fd ps sp := by
  obtain ⟨oc, od, kV, doc, pm, an, cdv, ct, osl, rfl, lk, hcd⟩ := F.ex
  refine ⟨len, fun A outer s H args us vs Q E g hr hg hgo e0 hb r hsp => ?_⟩
  refine LamX.run_ofS lk hcd S hr e0 hb r (len _ _ _ _ hsp) fun hr' => ?_
  obtain ⟨t, h, q⟩ := hbody cdv A outer s H vs Q E g hr' hg hgo hsp
  exact ⟨t, h.nox, q⟩
section
variable {X : Cx} {C f : Addr} {fd : FuncData} {k : Nat} {sp : Sp} {H : Hp}
theorem ReprStep.own {a : Addr} {t : Str} (F : FnOkH X.prog X.w X.K X.mg X.base CX0 k f fd ["self"] sp) (hb : L2.Binds X.K fd ["self"] []) (m : Meth X.K C "__repr__" f)
    (h : ∀ H', Same H H' → (∃ dx fs, H' a = some (.ins C dx fs)) ∧ sp [.ref a] H' (fun v H'' => v = .str t ∧ Same H' H'') E0) (hz : t.length ≤ sizeLine) : ReprStep X k H (.ref a) t := by
  intro base A g pins s σ H' u Q E' hbs hA hg I sm rx hQ
  cases rx
  obtain ⟨⟨dx, fs, ha⟩, h⟩ := h H' sm
  obtain ⟨mA, O, _⟩ := ins_get I.hok ha
  obtain ⟨od, J, _⟩ := O.look
  have X1 := I.kIn
  have hu := hA.room.units
  have hrun : wpAny (model X.prog X.w) A (call (.ref f) [.ref a]) (fun v s' => ∃ H'' tk, v = .str t tk ∧ L2.Inv X pins σ H'' s' ∧ Same H' H'') E' s := by
    have hl : ([Value.ref a] ++ []).length = ["self"].length := rfl
    have hb' : BindsTo s fd ⟨[.ref a], []⟩ ([("self" : Str)].zip [Value.ref a]) := hb s [.ref a] I.kIn rfl
    refine wpAny_call (codeAny_mono (F.run A X.stack s H' ⟨[.ref a], []⟩ [.ref a] [.ref a] _ E0 g hA.room hA.gd hg (hA.env I) hb' (.cons rfl .nil) h) fun r s' hq => ?_)
    cases r with
    | error e => exact (show False from hq).elim
    | ok fl =>
      cases fl with
      | ret w =>
        obtain ⟨v, H2, I2, rv, rfl, sm2⟩ := I.after hq
        obtain ⟨tk, rfl⟩ := rv
        exact ⟨H2, tk, rfl, I2, sm2⟩
      | next => exact False.elim hq
      | brk => exact False.elim hq
      | cont => exact False.elim hq
  refine wpAny_pyReprUnder_ref (by omega) ?_
  unfold pyReprObjUnder pyReprObjBy
  refine wpAny_bind (wpAny_cRoomFor (by omega) ?_)
  refine wpAny_bind (wpAny_bind (J.type.here ((PySem.W.looks_findIn X1 m.at_).here ?_)))
  show wpAny _ _ (if (some (Value.ref f)).isNone = true then _ else _) _ _ _
  rw [if_neg (by simp)]
  refine wpAny_bind ?_
  simp only [callSpecialIfBoundBy?, bindSpecialIfBound?]
  refine wpAny_holding (wpAny_bind (wpAny_bind (wpAny_bind (J.type.here ((PySem.W.looks_findIn X1 m.at_).here ?_)))))
  refine wpAny_bind (wpAny_askSetting (wpAny_ite ?_))
  have last : ∀ (Q' : Option Value → Shared → Prop), (∀ H'' s' tk, L2.Inv X pins σ H'' s' → Same H' H'' → Q' (some (.str t tk)) s') → wpAny (model X.prog X.w) A ((match reprUnder? (.ref f), [Value.ref a] with | some twin, [self] => call twin [self, rawInt base] | _, _ => call (.ref f) ([Value.ref a] ++ [])) >>= fun v => pure (some v)) Q' E' s := fun Q' hQ' => by
    refine wpAny_bind (wpAny_mono hrun (fun v s' hv => ?_) fun _ _ e => e)
    obtain ⟨H'', tk, rfl, I2, sm2⟩ := hv
    exact wpAny_pure (hQ' H'' s' tk I2 sm2)
  have fin : ∀ H'' s' tk, L2.Inv X pins σ H'' s' → Same H' H'' → wpAny (model X.prog X.w) A (do if ← isInstance (.str t tk) (.type "str") then pure (Value.str t tk) else raiseError "TypeError" s!"__repr__ returned non-string (type {← typeNameOf (.str t tk)})") (fun v s'' => ∃ x u, v = .str x u ∧ Q x s'') E' s' := fun H'' s' tk I2 sm2 => by
    refine wpAny_bind (wpAny_isInstance (typeIs_str _ _ _) isSubtype_str_str ?_)
    rw [if_pos rfl]
    exact wpAny_pure ⟨t, tk, rfl, hQ H'' s' I2 sm2⟩
  split
  · exact wpAny_bind ((PySem.W.bind_fn X1 _ (beq_iff_eq.mp m.fn)).here (wpAny_pure (last _ fun H'' s' tk I2 sm2 => fin H'' s' tk I2 sm2)))
  · exact wpAny_tryCatch (wpAny_bind ((PySem.W.bind_fn X1 _ (beq_iff_eq.mp m.fn)).here (wpAny_pure (last _ fun H'' s' tk I2 sm2 => fin H'' s' tk I2 sm2))))
end
end L3
/-! repr of lists that hold own objects: the list. -/
namespace L3
open PySem PySem.Spec PyProof.Rows L2
open Builtin Builtin.List
abbrev lstO (acc : Array Value) (c : Nat) : Obj := { cls := .type "list", dict := none, data := .seq acc c, slots := #[] }
/-- a record of ours that may change -/
structure Mine (X : Cx) (pins : List (Addr × Obj)) (P : Addr) : Prop where
  new : X.s_0.heap.objs.size ≤ P
  cell : ∀ x c, X.env.cells.lookup x = some c → c ≠ P
  pin : ∀ p ∈ X.pn ++ pins, p.1 ≠ P
section
variable {X : Cx} {pins : List (Addr × Obj)} {σ : L2.St} {H : Hp} {s : Shared} {P : Addr}
theorem Mine.of (I : L2.Inv X pins σ H s) (hP : s.heap.objs.size ≤ P) : Mine X pins P := by
  refine ⟨Nat.le_trans I.sz hP, fun x c e z => ?_, fun p hp z => ?_⟩
  · obtain ⟨v, o, hv, _⟩ := I.cell x c e
    rw [z] at hv
    exact absurd (Heap.lt_size hv) (Nat.not_lt.mpr hP)
  · obtain ⟨q, _⟩ := I.pin p hp
    rw [z] at q
    exact absurd (Heap.lt_size q) (Nat.not_lt.mpr hP)
theorem repin {o o' : Obj} {h' : Heap} {t' : Nat} (M : Mine X pins P) (I : L2.Inv X ((P, o) :: pins) σ H s) (k : ∀ b u, b ≠ P → s.heap.get? b = some u → h'.get? b = some u) (ho : h'.get? P = some o') (hc : ∀ v, o'.data ≠ .cell v) :
    L2.Inv X ((P, o') :: pins) σ H { s with heap := h', toks := t' } := by
  obtain ⟨p1, p2, p3, p4, p5⟩ := I.pin (P, o) (List.mem_append_right _ List.mem_cons_self)
  have I1 := (ClX.unpin I).turned (t' := t') k p2 p3 (.inr M.new) M.cell M.pin
  refine I1.pins_of fun p hp => ?_
  rcases List.mem_cons.mp hp with e | e
  · subst e
    exact ⟨ho, p2, p3, p4, hc⟩
  · exact I1.pin p (List.mem_append_right _ e)
end
section
variable {X : Cx} {pins : List (Addr × Obj)} {σ : L2.St} {H : Hp} {k : Nat} {A : Around} {g : List Code} {base : Nat} {l P m C dx : Addr} {L : List V} {ts : List Str} {fs : List (Str × V)}
theorem reprL_loop (hA : AIn X (k + 1) g A) (hg : GOk H g) (hl : H l = some (.lst L)) (hm : V.ref m ∈ L) (hmi : H m = some (.ins C dx fs)) (hlen : ts.length = L.length) (hT : ∀ (i : Nat) x t, L[i]? = some x → ts[i]? = some t → ReprStep X k H x t) (hsz : base + (listText ts).length ≤ sizeLine) (M : Mine X pins P)
    {R : Result → Shared → Prop} (hR : ∀ H' s' u, L2.Inv X pins σ H' s' → Same H H' → R (.ok (.ret (.str (listText ts) u))) s') :
    ∀ (n i : Nat) (s : Shared) (H' : Hp) (acc : Array Value) (c : Nat) (done : List (Str × Tok)), L.length - i = n → i ≤ L.length → L2.Inv X ((P, lstO acc c) :: pins) σ H' s → Same H H' → acc.toList = strValues done → done.map (·.1) = ts.take i →
    codeAny (model X.prog X.w) A (.builtin "list.__repr__.loop" ⟨[.ref l, rawInt i, .ref P, rawInt ((base + piled (ts.take i) : Nat) : Int)], []⟩) R s := by
  have hX : (listText ts).length = (textFrom 0 "[" ts).length + 1 := by
    show (textFrom 0 "[" ts ++ "]").length = _
    rw [strLen_append]; rfl
  have hL := textFrom_len ts 0 "["
  have sz1 : L.length ≤ sizeLine := by
    have h1 := hL.1
    rw [if_neg (Nat.lt_irrefl 0)] at h1
    omega
  have sz2 : ∀ t ∈ ts, t.length ≤ sizeLine := fun t ht => by
    have h2 := hL.2.1 t ht
    omega
  have hp3 := piled_le_listText ts
  intro n
  induction n with
  | zero =>
    intro i s H' acc c done hn hi I sm hacc hdone
    have hin : i = L.length := by omega
    obtain ⟨_, its, na, rv, ho⟩ := (ClX.unpin I).hok _ _ (sm _ _ hl)
    have hP := ClX.pin_at I
    have nl := rv.length
    refine codeAny_builtin F.entry_list_repr_loop ?_
    show wpAny _ _ («list.__repr__.loop» ⟨[.ref l, .int i 0, .ref P, .int ((base + piled (ts.take i) : Nat) : Int) 0], []⟩) _ _ s
    rw [repr_loop_tree]
    refine wpAny_bind (wpAny_listItems ho rfl ?_)
    have hno : its.toArray[(i : Int).toNat]? = none := by simp; omega
    simp only [hno]
    unfold reprEnd
    refine wpAny_bind (wpAny_listItems hP rfl ?_)
    rw [hacc, repr_fold]
    refine wpAny_bind (wpAny_pure ?_)
    have hall : done.map (·.1) = ts := by rw [hdone, hin, ← hlen, List.take_length]
    rw [hall]
    refine wpAny_bind (wpAny_mkStr (wpAny_pure ?_) (by show (listText ts).length ≤ _; omega))
    exact hR H' _ _ ((ClX.unpin I).tok _) sm
  | succ n ih =>
    intro i s H' acc c done hn hi I sm hacc hdone
    have hlt : i < L.length := by omega
    obtain ⟨_, its, na, rv, ho⟩ := (ClX.unpin I).hok _ _ (sm _ _ hl)
    have nl := rv.length
    have hi1 : i < its.length := by omega
    obtain ⟨t, ht⟩ : ∃ t, ts[i]? = some t := ⟨ts[i]'(by omega), List.getElem?_eq_getElem (by omega)⟩
    have hx := List.getElem?_eq_getElem hlt
    have rx := rel_at rv hx (List.getElem?_eq_getElem hi1)
    have hp1 := piled_take_succ ht
    have hp2 := piled_take_le ts (i + 1)
    refine codeAny_builtin F.entry_list_repr_loop ?_
    show wpAny _ _ («list.__repr__.loop» ⟨[.ref l, .int i 0, .ref P, .int ((base + piled (ts.take i) : Nat) : Int) 0], []⟩) _ _ s
    rw [repr_loop_tree]
    refine wpAny_bind (wpAny_listItems ho rfl ?_)
    have hso : its.toArray[(i : Int).toNat]? = some its[i] := by simp [hi1]
    simp only [hso]
    rw [Int.toNat_natCast]
    refine wpAny_bind (wpAny_holding (hT i _ t hx ht (base + piled (ts.take i) + 1) _ _ ((P, lstO acc c) :: pins) s σ H' _ _ _ (by omega) (hA.loop _) ((hg.same sm).cons (sm _ _ hl) hm (sm _ _ hmi)) I sm rx fun H2 s2 I2 sm2 => ?_))
    have hP2 := ClX.pin_at I2
    refine wpAny_bind (wpAny_mkStr ?_ (sz2 t (List.mem_of_getElem? ht)))
    refine wpAny_bind ?_
    show wpAny _ _ (updateSeq P _) _ _ _
    have hasz : acc.size ≤ sizeLine := by
      have e1 : acc.toList.length = acc.size := by simp
      have e2 : (strValues done).length = done.length := by simp [strValues]
      have e3 : done.length = (ts.take i).length := by rw [← hdone, List.length_map]
      have e4 : (ts.take i).length ≤ i := by rw [List.length_take]; omega
      rw [hacc] at e1; omega
    refine wpAny_updateSeq hP2 rfl (wpAny_pure ⟨F.quiet_list_repr_loop _, ?_⟩) hasz
    have e1 : ((i : Int) + 1) = ((i + 1 : Nat) : Int) := by omega
    have e2 : base + piled (ts.take i) + (t.length + 2) = base + piled (ts.take (i + 1)) := by omega
    rw [e1, e2]
    have hP3 := Heap.get?_update_self (h := s2.heap) (Obj.mapSeq fun xs => xs.push (.str t s2.toks)) hP2 rfl
    refine ih (i + 1) _ H2 (acc.push (.str t s2.toks)) _ (done ++ [(t, s2.toks)]) (by omega) hlt (repin (t' := s2.toks + 1) M (I2.tok (s2.toks + 1)) (fun b u hb z => (Heap.get?_update_other _ _ (Ne.symm hb)).trans z) hP3 (fun v z => by cases z)) (sm.trans sm2) (by simp [hacc, strValues]) (by simp [List.take_add_one, ht, hdone])
/-- repr(l), l a list that holds own objects -/
theorem cr_reprL (hr : Room (k + 2) X.A) (hG : X.A.guards = some []) : CallR X (.builtin "repr") (fun xs H Q => ∃ (l m C dx : Addr) (L : List V) (ts : List Str) (fs : List (Str × V)), xs = [.ref l] ∧ H l = some (.lst L) ∧ V.ref m ∈ L ∧ H m = some (.ins C dx fs) ∧ ts.length = L.length ∧
    (∀ (i : Nat) x t, L[i]? = some x → ts[i]? = some t → ReprStep X k H x t) ∧ (listText ts).length ≤ sizeLine ∧ ∀ H', Same H H' → Q (.str (listText ts)) H') := by
  intro pins s σ H xs us Q I r h
  obtain ⟨l, m, C, dx, L, ts, fs, rfl, hl, hm, hmi, hlen, hT, hz, q⟩ := h
  rw [Vals.ref1 r]
  obtain ⟨_, its, na, rv, ho⟩ := I.hok _ _ hl
  have hu := hr.units
  refine call_repr_slot (by omega) (T := "list") (idr := "list.__repr__") ⟨_, ho, rfl⟩ F.slot_list_repr.toG ?_
  refine wpAny_call (codeAny_call_builtin F.slot_list_repr.plain F.entry_list_repr (F.slot_list_repr.check _ _ _ _ _ _ _ _ ⟨_, ho, rfl⟩ (F.args_list_repr_1 _) ?_))
  cases its with
  | nil => exact absurd (vals_mem rv hm) (by simp)
  | cons x ls =>
    have hA : AIn X (k + 1) [] X.A.in1 := (AIn.base hr hG).in1
    refine wpAny_list_repr_head (A := X.A.in1.in1) (g := []) (b := 0) hG (fun v rest kw hm => nomatch hm) ho rfl ?_
    refine wpAny_bind (m := newList []) (wpAny_newObj_type ?_)
    refine wpAny_pure ⟨F.quiet_list_repr_loop _, ?_⟩
    have I2 := ClX.pin_new (t' := s.toks) (o := lstO #[] 0) I (fun b u e => Heap.get?_push_of_some _ e) (Nat.le_refl _) (Heap.get?_push_size s.heap (o := lstO #[] 0) rfl) (fun v z => by cases z)
    refine reprL_loop (base := 0) (R := fun r s' => _) hA (GOk.nil H) hl hm hmi hlen hT (by omega) (Mine.of I (Nat.le_refl _)) (fun H' s' u I' sm => ?_) _ 0 _ H #[] _ [] rfl (Nat.zero_le _) I2 (Same.refl _) rfl (by simp)
    exact ⟨_, u, rfl, .str _, H', I', ⟨u, rfl⟩, q H' sm⟩
/-- {e!r}, e a list of data, while reprs are under way -/
def tFmtRH (K : PySem.W.Frag) (g : List Code) (te : TE) : TE := fun σ H Q => te σ H fun x H1 => ∃ (a : Addr) (d : PyData), x = .ref a ∧ Dp K H1 x d ∧ (∃ e es, d = .list (e :: es)) ∧ GOk H1 g ∧ d.showable = true ∧ d.shown.length ≤ sizeLine ∧ d.depth ≤ 50 ∧ Q (.str d.shown) H1
theorem pe_fmtRH {e : Expr} {te : TE} {pos : Pos} (hr : Room k X.A) (hG : X.A.guards = some g) (he : PE X e te) : PE X (.FormattedValue e 114 none pos) (tFmtRH X.K g te) := by
  refine ⟨fun pins s σ H Q I h => ?_⟩
  refine wpAny_FormattedValue_repr (thn (he.run pins s σ H _ I h) fun v s1 hv => ?_)
  obtain ⟨x, H1, I1, r1, a, d', rfl, hd, ⟨d, ds, rfl⟩, hgo, hs, hz, hdp, q⟩ := hv
  cases r1
  have hu := hr.units
  obtain ⟨as, hR⟩ := Dp.reads I1 _ (.ref a) (.ref a) hd rfl
  have hcl : ∀ {b : Addr} {d' : PyData} {as' : List Addr}, Reads s1.heap (.ref b) d' as' → Clear g b := fun r => gok_clear I1 hgo r
  have hR0 := hR
  have hnd := dp_noDict (K := X.K) (H := H1) hd
  cases hR with
  | @list _ o vs n _ bs0 h1 h2 h3 h4 =>
    obtain ⟨lv⟩ := vs
    cases lv with
    | nil => cases h4
    | cons y ys =>
      have hz' : (listText (PyData.shownAll (d :: ds))).length ≤ sizeLine := by simpa only [PyData.shown] using hz
      obtain ⟨bs, hb, hk⟩ := ReprAllK.of_readsAll (prog := X.prog) (w := X.w) h4 (by simpa [PyData.showable] using hs) (fun hx => absurd hx (by
        have : PyData.hasDictAll (d :: ds) = false := by simpa [PyData.hasDict] using hnd
        rw [this]; decide)) (fun t ht => Nat.le_trans (listText_mem_le ht) hz')
      have hna : a ∉ bs := not_mem_of_deeper hR0 (by simp only [PyData.depth]; omega) hb
      have hdd : PyData.depthAll (d :: ds) + 1 ≤ 50 := by simpa [PyData.depth] using hdp
      refine wpAny_pyReprObj_listK h1 h2 h3 hna (by simpa using hk.length_eq) (fun i y e => hk.item i y (by simpa using e)) hG (fun b hbm => ?_) (by omega) (fun _ _ e => e) (fun h' t tk hk' => ?_) hz'
      · rcases List.mem_cons.mp hbm with rfl | hbm
        · exact hcl hR0
        · obtain ⟨d', as', r', _⟩ := hb b hbm
          exact hcl r'
      · have hsh : (PyData.list (d :: ds)).shown = listText (PyData.shownAll (d :: ds)) := by simp only [PyData.shown]
        rw [← hsh]
        exact wpAny_formatField_str ⟨.str _, H1, I1.kept hk', ⟨_, rfl⟩, q⟩ ⟨.str _, H1, (I1.kept hk').tok _, ⟨_, rfl⟩, q⟩ hz
end
end L3
/-! Own error classes: all that is known of one, in one word. -/
namespace L3
open PySem PySem.Spec PyProof.Rows L2
/-- the text of an __init__ with one field -/
def Bd1 (scope : Scope) (body : List Stmt) (x f : Str) : Prop := ∃ txt kk p0 p1 p2 p3 p4 p5 q1 q2 q3 q4, body = [.Expr (supE txt kk p0 p1 p2 p3 p4) p5, .Assign [.Attribute (.Name "self" q1) f q2] (.Name x q3) q4] ∧ SupOk scope txt kk p0 p1 p2 p3 p4 ∧ Sto scope x f q1 q2 q3 q4
def Bd2 (scope : Scope) (body : List Stmt) (x f y f2 : Str) : Prop := ∃ txt kk p0 p1 p2 p3 p4 p5 q1 q2 q3 q4 r1 r2 r3 r4, body = [.Expr (supE txt kk p0 p1 p2 p3 p4) p5, .Assign [.Attribute (.Name "self" q1) f q2] (.Name x q3) q4, .Assign [.Attribute (.Name "self" r1) f2 r2] (.Name y r3) r4] ∧
  SupOk scope txt kk p0 p1 p2 p3 p4 ∧ Sto scope x f q1 q2 q3 q4 ∧ Sto scope y f2 r1 r2 r3 r4
/-- an error class with one field -/
def Er1 (P : Program) (K : PySem.W.Frag) (mg : Str → Option Value) (C : Addr) (x f : Str) : Prop := ∃ fI B newId initId bmB params body scope, ErrT P K mg C fI B newId initId bmB ["self", x] params body scope ∧ Bd1 scope body x f ∧ PySem.W.findIn K (.ref C) f = some none
def Er2 (P : Program) (K : PySem.W.Frag) (mg : Str → Option Value) (C : Addr) (x f y f2 : Str) : Prop := ∃ fI B newId initId bmB params body scope, ErrT P K mg C fI B newId initId bmB ["self", x, y] params body scope ∧ Bd2 scope body x f y f2 ∧ PySem.W.findIn K (.ref C) f = some none ∧ PySem.W.findIn K (.ref C) f2 = some none
section
variable {X : Cx} {C : Addr} {cn x f y f2 : Str} {W : WX} {p pos pos2 : Pos} {e e2 : Expr} {ta : TA}
/-- raise C(e) -/
theorem ps_raise1 (hc : X.calm = true) (T : Er1 X.prog X.K X.mg C x f) (hr : Room 1 X.A) (tk : Takes X W) (hm : X.mg cn = some (.ref C)) (ha : PA X [e] ta) (hg : Gl X cn := by rfl) (hdb : (cn == ("__debug__" : Str)) = false := by decide) (he : starEach [e] X.env = (false, eval e X.env) :: starEach [] X.env := by rfl) :
    PS X (.Raise (some (.Call (.Name cn p) [e] [] pos)) none pos2) (fun _ σ H => tMk1 C f ta σ H fun cls d H' => W cls d σ H') := by
  obtain ⟨fI, B, newId, initId, bmB, params, body, scope, T, ⟨txt, kk, p0, p1, p2, p3, p4, p5, q1, q2, q3, q4, hb, hev, D⟩, hfn⟩ := T
  exact ps_raise hc tk (pmk_err1 T hev D hfn hb hr hg hm ha hdb he)
theorem ps_raise2 (hc : X.calm = true) (T : Er2 X.prog X.K X.mg C x f y f2) (hr : Room 1 X.A) (tk : Takes X W) (hm : X.mg cn = some (.ref C)) (ha : PA X [e, e2] ta) (hg : Gl X cn := by rfl) (hdb : (cn == ("__debug__" : Str)) = false := by decide) (he : starEach [e, e2] X.env = (false, eval e X.env) :: starEach [e2] X.env := by rfl)
    (hpl : (backTo pos (starEach [e2] X.env)).any (·.1) = false := by rfl) :
    PS X (.Raise (some (.Call (.Name cn p) [e, e2] [] pos)) none pos2) (fun _ σ H => tMk2 C f f2 ta σ H fun cls d H' => W cls d σ H') := by
  obtain ⟨fI, B, newId, initId, bmB, params, body, scope, T, ⟨txt, kk, p0, p1, p2, p3, p4, p5, q1, q2, q3, q4, r1, r2, r3, r4, hb, hev, D, D2⟩, hfn, hfn2⟩ := T
  exact ps_raise hc tk (pmk_err2 T hev D D2 hfn hfn2 hb hr hg hm ha hdb he hpl)
end
/-- how ErrF is shown -/
theorem errF_mk {P : Program} {K : PySem.W.Frag} {mg : Str → Option Value} {C fI pr : Addr} {B newId initId : String} {bmB : List Value} {ps : List Str} {params : Arguments} {body : List Stmt} {scope : Scope}
    {nm q : Str} {N : Addr} {bs : List Value} {sn : List Str} {sub : List Value} {ab : Bool} {col : Option Bool} {dd : Option Addr} {k0 k1 k2 k3 k5 : Option Value}
    {qual : Str} {dV kV doc pm ct oc ccl cl : Value} {an od cdd cld : Option Addr} {cda cc : Addr} {osl ccs csl : Array (Option Value)} {vs : Array Value} {file : Str} {tf : Tok}
    (bf : ExcBaseFacts B newId initId bmB) (sf : PySem.W.KxsFacts B initId) (obj : bmB.contains (.type "object") = true) (pass : ∀ self : Value, refuseLoop self "__setattr__" bmB = pure ())
    (lc : K.lookup C = some (excClassObj nm q C N bs (.ref pr :: bmB) true sn sub ab col dd k0 k1 k2 k3 k5 newId))
    (li : K.lookup fI = some ⟨oc, od, .func (PySem.W.ksFn "__init__" qual params body scope dV kV doc pm an (.ref cda) ct cc), osl⟩) (ei : PySem.W.codeIn K (.ref cda) qual = true)
    (lk : K.lookup cda = some ⟨ccl, cdd, .fields vs, ccs⟩) (v2 : vs[2]? = some (.str file tf)) (fl : ((P.main.file : Str) == file) = true) (lcc : K.lookup cc = some ⟨cl, cld, .cell (some (.ref C)), csl⟩)
    (hb : ∀ s us, us.length = ps.length → BindsTo s (PySem.W.ksFn "__init__" qual params body scope dV kV doc pm an (.ref cda) ct cc) ⟨us, []⟩ (ps.zip us))
    (su : PySem.W.ks_superIn K C C "__init__" = some (some (.builtin initId))) (se : PySem.W.mroIn K C (.ref C) = some true) (sb : PySem.W.subIn K (.ref C) (.type B) = some true) (op : PySem.W.nsIn K cStatics "thirdparty.any" = some none)
    (gl : mg "super" = none) (tp : (P.main.scope.names.lookup ("super" : Str)).isSome = false) (sa : PySem.W.findIn K (.ref C) "__setattr__" = some (some (.builtin "object.__setattr__"))) (ii : PySem.W.findIn K (.ref C) "__init__" = some (some (.ref fI)))
    (ti : PySem.W.typeIn K (.ref fI) = some (.type "function")) (kc : PySem.W.keepIn K (.ref C) = true) (ex : PySem.W.subIn K (.ref C) (.type "BaseException") = some true) (ty : PySem.W.typeIn K (.ref C) = some (.type "type")) :
    ErrF P K mg C fI B newId initId bmB ps params body scope := by
  refine ⟨bf, obj, sf, ⟨nm, q, N, bs, .ref pr :: bmB, sn, sub, ab, col, dd, k0, k1, k2, k3, k5, lc, fun X => ?_, fun self => ?_⟩, ⟨qual, dV, kV, doc, pm, an, cda, ct, cc, oc, od, osl, vs, file, tf, ccl, cdd, ccs, cl, cld, csl, li, ei, lk, v2, fl, lcc, hb⟩, su, se, sb, op, gl, tp, sa, ii, ti, kc, ex, ty⟩
  · rw [List.contains_cons]; rfl
  · rw [refuseLoop_ref, refuseLoop_ref]; exact pass self
end L3
/-! calls of defs that may raise where they do not; four parameters by name -/
namespace L3
open PySem PySem.Spec PyProof.Rows L2
theorem passE0 {P : Program} {w : World} {X : Cx} : Passes (L2.CX P w) X E0 := fun _ _ _ _ _ _ _ h => by
  obtain ⟨_, _, _, _, _, _, _, _, _, _, _, _, z⟩ := h
  exact z.elim
def k4 {α : Type} : List α → List α → List α
  | [], [w, v, u, t] => [t, u, v, w]
  | _, _ => []
theorem k4_rel : ∀ {vs : List V} {us : List Value} {zs : List V} {ws : List Value}, Vals vs us → Vals zs ws → Vals (k4 vs zs) (k4 us ws)
  | _, _, _, _, .nil, .nil => .nil
  | _, _, _, _, .nil, .cons _ .nil => .nil
  | _, _, _, _, .nil, .cons _ (.cons _ .nil) => .nil
  | _, _, _, _, .nil, .cons _ (.cons _ (.cons _ .nil)) => .nil
  | _, _, _, _, .nil, .cons r (.cons s (.cons t (.cons u .nil))) => .cons u (.cons t (.cons s (.cons r .nil)))
  | _, _, _, _, .nil, .cons _ (.cons _ (.cons _ (.cons _ (.cons _ _)))) => .nil
  | _, _, _, _, .cons _ _, .nil => .nil
  | _, _, _, _, .cons _ _, .cons _ _ => .nil
/-- f(d = w, c = v, b = u, a = t) for f(a, b, c, d) -/
theorem kb4 {K : PySem.W.Frag} {x a b c d : Str} {st : Stmt} {f : Addr} {fd : FuncData} (F : Fun K x x st f fd)
    (h : ∀ (kV doc pm : Value) (an : Option Addr) (cdv ct w v u t : Value), bindArgs (PySem.W.fnOf x x (defArgs st) (defBody st) (defScope st) .none kV doc pm an cdv ct) ⟨[], [(d, w), (c, v), (b, u), (a, t)]⟩ = pure [(a, t), (b, u), (c, v), (d, w)]) : KBinds K fd [a, b, c, d] [d, c, b, a] k4 k4 := by
  refine ⟨fun s us ws X hl => ?_, k4_rel⟩
  obtain ⟨oc, od, kV, doc, pm, an, cdv, ct, osl, rfl, lk, hcd⟩ := F.ex
  match us, ws, hl with
  | [], [w, v, u, t], _ => exact .of_eq (h kV doc pm an cdv ct w v u t)
end L3
namespace Lw
open PySem PySem.Spec PyProof.Rows L2 L3
def topS (i : Nat) : Stmt := PySem.Challenge.pw_missedparts_k74_whole_kinds_and_goals_tu.main.body.getD i (.Pass ⟨0, 0, 0, 0⟩)
abbrev s_is_integer : Stmt := topS 19
abbrev s_is_count : Stmt := topS 20
abbrev s_is_list : Stmt := topS 21
abbrev s_is_text : Stmt := topS 22
abbrev s_are_letters : Stmt := topS 23
abbrev s_is_text_over : Stmt := topS 24
abbrev s_want_few : Stmt := topS 25
abbrev s_is_row : Stmt := topS 27
abbrev s_want_machine : Stmt := topS 28
abbrev s_met_from : Stmt := topS 29
abbrev s_want_text : Stmt := topS 32
abbrev s_want_letter : Stmt := topS 33
abbrev s_want_place : Stmt := topS 34
abbrev s_led : Stmt := topS 37
abbrev s_is_taken : Stmt := topS 38
abbrev s_contrary : Stmt := topS 39
abbrev s_lists_of : Stmt := topS 43
abbrev s_want_listed : Stmt := topS 44
abbrev s_turned_by : Stmt := topS 45
abbrev s_turned : Stmt := topS 46
abbrev s_redirected : Stmt := topS 47
abbrev s_law_pot : Stmt := topS 49
abbrev s_law_draw : Stmt := topS 50
abbrev s_law_pick : Stmt := topS 51
abbrev s_law_met : Stmt := topS 52
abbrev s_law_turned : Stmt := topS 53
abbrev s_law_rows : Stmt := topS 54
abbrev s_law_model : Stmt := topS 55
abbrev s_law_machine : Stmt := topS 56
abbrev s_law_signs : Stmt := topS 57
abbrev s_law_takes : Stmt := topS 58
abbrev s_law_words : Stmt := topS 59
abbrev s_law_mixed : Stmt := topS 60
abbrev s_law_turned_model : Stmt := topS 61
abbrev s_law_spots_right : Stmt := topS 62
abbrev s_law_led : Stmt := topS 63
abbrev s_law_led_right : Stmt := topS 64
abbrev s_law_steps_right : Stmt := topS 65
abbrev s_law_great_right : Stmt := topS 66
abbrev s_law_right : Stmt := topS 67
abbrev s_law : Stmt := topS 68
theorem sc_is_integer : FnScope ["value"] ["value"] (defScope s_is_integer) := ⟨rfl, rfl, rfl, by decide +kernel, rfl, by decide +kernel, by decide +kernel⟩
theorem sc_is_count : FnScope ["value"] ["value"] (defScope s_is_count) := ⟨rfl, rfl, rfl, by decide +kernel, rfl, by decide +kernel, by decide +kernel⟩
theorem sc_is_list : FnScope ["value"] ["value"] (defScope s_is_list) := ⟨rfl, rfl, rfl, by decide +kernel, rfl, by decide +kernel, by decide +kernel⟩
theorem sc_is_text : FnScope ["value", "sign"] ["value"] (defScope s_is_text) := ⟨rfl, rfl, rfl, by decide +kernel, rfl, by decide +kernel, by decide +kernel⟩
theorem sc_are_letters : FnScope ["value"] ["value"] (defScope s_are_letters) := ⟨rfl, rfl, rfl, by decide +kernel, rfl, by decide +kernel, by decide +kernel⟩
theorem sc_is_text_over : FnScope ["letters", "value", "sign"] ["letters", "value"] (defScope s_is_text_over) := ⟨rfl, rfl, rfl, by decide +kernel, rfl, by decide +kernel, by decide +kernel⟩
theorem sc_want_few : FnScope ["what", "many", "limit"] ["what", "many", "limit"] (defScope s_want_few) := ⟨rfl, rfl, rfl, by decide +kernel, rfl, by decide +kernel, by decide +kernel⟩
theorem sc_is_row : FnScope ["value", "size", "many", "goal"] ["value", "size", "many"] (defScope s_is_row) := ⟨rfl, rfl, rfl, by decide +kernel, rfl, by decide +kernel, by decide +kernel⟩
theorem sc_want_machine : FnScope ["letters", "rows", "kinds", "position", "row", "kind"] ["letters", "rows", "kinds"] (defScope s_want_machine) := ⟨rfl, rfl, rfl, by decide +kernel, rfl, by decide +kernel, by decide +kernel⟩
theorem sc_met_from : FnScope ["rows", "start", "found", "at", "goal"] ["rows", "start"] (defScope s_met_from) := ⟨rfl, rfl, rfl, by decide +kernel, rfl, by decide +kernel, by decide +kernel⟩
theorem sc_want_text : FnScope ["letters", "text"] ["letters", "text"] (defScope s_want_text) := ⟨rfl, rfl, rfl, by decide +kernel, rfl, by decide +kernel, by decide +kernel⟩
theorem sc_want_letter : FnScope ["letters", "letter"] ["letters", "letter"] (defScope s_want_letter) := ⟨rfl, rfl, rfl, by decide +kernel, rfl, by decide +kernel, by decide +kernel⟩
theorem sc_want_place : FnScope ["machine", "place"] ["machine", "place"] (defScope s_want_place) := ⟨rfl, rfl, rfl, by decide +kernel, rfl, by decide +kernel, by decide +kernel⟩
theorem sc_led : FnScope ["machine", "place", "text", "here", "letter"] ["machine", "place", "text"] (defScope s_led) := ⟨rfl, rfl, rfl, by decide +kernel, rfl, by decide +kernel, by decide +kernel⟩
theorem sc_is_taken : FnScope ["machine", "text"] ["machine", "text"] (defScope s_is_taken) := ⟨rfl, rfl, rfl, by decide +kernel, rfl, by decide +kernel, by decide +kernel⟩
theorem sc_contrary : FnScope ["machine", "kind"] ["machine"] (defScope s_contrary) := ⟨rfl, rfl, rfl, by decide +kernel, rfl, by decide +kernel, by decide +kernel⟩
theorem sc_lists_of : FnScope ["rows", "row"] ["rows"] (defScope s_lists_of) := ⟨rfl, rfl, rfl, by decide +kernel, rfl, by decide +kernel, by decide +kernel⟩
theorem sc_want_listed : FnScope ["machine", "places", "position", "place"] ["machine", "places"] (defScope s_want_listed) := ⟨rfl, rfl, rfl, by decide +kernel, rfl, by decide +kernel, by decide +kernel⟩
theorem sc_turned_by : FnScope ["machine", "places", "kinds", "place", "kind"] ["machine", "places"] (defScope s_turned_by) := ⟨rfl, rfl, rfl, by decide +kernel, rfl, by decide +kernel, by decide +kernel⟩
theorem sc_turned : FnScope ["machine", "places"] ["machine", "places"] (defScope s_turned) := ⟨rfl, rfl, rfl, by decide +kernel, rfl, by decide +kernel, by decide +kernel⟩
theorem sc_redirected : FnScope ["machine", "place", "letter", "goal", "rows"] ["machine", "place", "letter", "goal"] (defScope s_redirected) := ⟨rfl, rfl, rfl, by decide +kernel, rfl, by decide +kernel, by decide +kernel⟩
theorem sc_law_pot : FnScope ["_law_script", "_law_k", "_law_cell"] ["_law_script", "_law_k"] (defScope s_law_pot) := ⟨rfl, rfl, rfl, by decide +kernel, rfl, by decide +kernel, by decide +kernel⟩
theorem sc_law_draw : FnScope ["_law_pot_here", "_law_size", "_law_digit"] ["_law_pot_here", "_law_size"] (defScope s_law_draw) := ⟨rfl, rfl, rfl, by decide +kernel, rfl, by decide +kernel, by decide +kernel⟩
theorem sc_law_pick : FnScope ["_law_pot_here", "_law_pack"] ["_law_pot_here", "_law_pack"] (defScope s_law_pick) := ⟨rfl, rfl, rfl, by decide +kernel, rfl, by decide +kernel, by decide +kernel⟩
theorem sc_law_met : FnScope ["_law_rows_here", "_law_order", "_law_at", "_law_step", "_law_spot"] ["_law_rows_here"] (defScope s_law_met) := ⟨rfl, rfl, rfl, by decide +kernel, rfl, by decide +kernel, by decide +kernel⟩
theorem sc_law_turned : FnScope ["_law_pot_here", "_law_rows_here", "_law_order", "_law_rest", "_law_turn", "_law_step", "_law_spot"] ["_law_pot_here", "_law_rows_here"] (defScope s_law_turned) := ⟨rfl, rfl, rfl, by decide +kernel, rfl, by decide +kernel, by decide +kernel⟩
theorem sc_law_rows : FnScope ["_law_pot_here", "_law_signs_here", "_law_most", "_law_size", "_law_way", "_law_rows_here", "_law_spot", "_law_row", "_law_sign", "_law_step"] ["_law_pot_here", "_law_signs_here", "_law_most"] (defScope s_law_rows) := ⟨rfl, rfl, rfl, by decide +kernel, rfl, by decide +kernel, by decide +kernel⟩
theorem sc_law_model : FnScope ["_law_pot_here", "_law_signs_here", "_law_most", "_law_rows_here", "_law_row"] ["_law_pot_here", "_law_signs_here", "_law_most"] (defScope s_law_model) := ⟨rfl, rfl, rfl, by decide +kernel, rfl, by decide +kernel, by decide +kernel⟩
theorem sc_law_machine : FnScope ["_law_model_here"] ["_law_model_here"] (defScope s_law_machine) := ⟨rfl, rfl, rfl, by decide +kernel, rfl, by decide +kernel, by decide +kernel⟩
theorem sc_law_signs : FnScope ["_law_pot_here"] ["_law_pot_here"] (defScope s_law_signs) := ⟨rfl, rfl, rfl, by decide +kernel, rfl, by decide +kernel, by decide +kernel⟩
theorem sc_law_takes : FnScope ["_law_model_here", "_law_text", "_law_spot", "_law_sign"] ["_law_model_here", "_law_text"] (defScope s_law_takes) := ⟨rfl, rfl, rfl, by decide +kernel, rfl, by decide +kernel, by decide +kernel⟩
theorem sc_law_words : FnScope ["_law_signs_here", "_law_most", "_law_found", "_law_last", "_law_turn", "_law_longer", "_law_word", "_law_sign"] ["_law_signs_here", "_law_most"] (defScope s_law_words) := ⟨rfl, rfl, rfl, by decide +kernel, rfl, by decide +kernel, by decide +kernel⟩
theorem sc_law_mixed : FnScope ["_law_pot_here", "_law_some", "_law_left", "_law_found", "_law_turn"] ["_law_pot_here", "_law_some"] (defScope s_law_mixed) := ⟨rfl, rfl, rfl, by decide +kernel, rfl, by decide +kernel, by decide +kernel⟩
theorem sc_law_turned_model : FnScope ["_law_model_here", "_law_spots", "_law_spot", "_law_kind"] ["_law_model_here", "_law_spots"] (defScope s_law_turned_model) := ⟨rfl, rfl, rfl, by decide +kernel, rfl, by decide +kernel, by decide +kernel⟩
theorem sc_law_spots_right : FnScope ["_law_pot_here", "_law_model_here", "_law_net", "_law_spots", "_law_spot", "_law_handed", "_law_due", "_law_told", "_law_word", "_law_steps_now"] ["_law_pot_here", "_law_model_here", "_law_net"] (defScope s_law_spots_right) := ⟨rfl, rfl, rfl, by decide +kernel, rfl, by decide +kernel, by decide +kernel⟩
theorem sc_law_led : FnScope ["_law_net", "_law_spot", "_law_sign", "_law_goal_now", "_law_told", "e"] ["_law_net", "_law_spot", "_law_sign", "_law_goal_now"] (defScope s_law_led) := ⟨rfl, rfl, rfl, by decide +kernel, rfl, by decide +kernel, by decide +kernel⟩
theorem sc_law_led_right : FnScope ["_law_net", "_law_told", "_law_spot", "_law_sign", "_law_goals"] ["_law_net", "_law_told", "_law_spot", "_law_sign", "_law_goals"] (defScope s_law_led_right) := ⟨rfl, rfl, rfl, by decide +kernel, rfl, by decide +kernel, by decide +kernel⟩
theorem sc_law_steps_right : FnScope ["_law_model_here", "_law_net", "_law_many", "_law_spot", "_law_at", "_law_sign", "_law_goal_now", "_law_rows_here", "_law_row", "_law_told", "_law_is_whole", "_law_goals"] ["_law_model_here", "_law_net"] (defScope s_law_steps_right) := ⟨rfl, rfl, rfl, by decide +kernel, rfl, by decide +kernel, by decide +kernel⟩
theorem sc_law_great_right : FnScope ["_law_pot_here", "_law_signs_here", "_law_many", "_law_rows_here", "_law_sign", "_law_spot", "_law_model_here", "_law_row", "_law_net", "_law_turn", "_law_at", "_law_goal_now", "_law_later", "_law_told"] ["_law_pot_here"] (defScope s_law_great_right) := ⟨rfl, rfl, rfl, by decide +kernel, rfl, by decide +kernel, by decide +kernel⟩
theorem sc_law_right : FnScope ["_law_pot_here", "_law_turn", "_law_model_here", "_law_net", "_law_shown", "_law_again"] ["_law_pot_here"] (defScope s_law_right) := ⟨rfl, rfl, rfl, by decide +kernel, rfl, by decide +kernel, by decide +kernel⟩
theorem sc_law : FnScope ["_law_script", "_law_k"] ["_law_script"] (defScope s_law) := ⟨rfl, rfl, rfl, by decide +kernel, rfl, by decide +kernel, by decide +kernel⟩
abbrev s_Machine_init : Stmt := inClass (topS 31) 1
theorem sc_Machine_init : FnScope ["self", "letters", "rows", "kinds", "met", "place", "row"] ["self", "letters", "rows", "kinds"] (defScope s_Machine_init) := ⟨rfl, rfl, rfl, by decide +kernel, rfl, by decide +kernel, by decide +kernel⟩
abbrev s_Machine_rows : Stmt := inClass (topS 31) 4
theorem sc_Machine_rows : FnScope ["self", "row"] ["self"] (defScope s_Machine_rows) := ⟨rfl, rfl, rfl, by decide +kernel, rfl, by decide +kernel, by decide +kernel⟩
abbrev s_Machine_kinds : Stmt := inClass (topS 31) 5
theorem sc_Machine_kinds : FnScope ["self"] ["self"] (defScope s_Machine_kinds) := ⟨rfl, rfl, rfl, by decide +kernel, rfl, by decide +kernel, by decide +kernel⟩
abbrev s_Machine_takes : Stmt := inClass (topS 31) 8
theorem sc_Machine_takes : FnScope ["self", "text"] ["self", "text"] (defScope s_Machine_takes) := ⟨rfl, rfl, rfl, by decide +kernel, rfl, by decide +kernel, by decide +kernel⟩
abbrev s_Machine_eq : Stmt := inClass (topS 31) 16
theorem sc_Machine_eq : FnScope ["self", "other"] ["self", "other"] (defScope s_Machine_eq) := ⟨rfl, rfl, rfl, by decide +kernel, rfl, by decide +kernel, by decide +kernel⟩
abbrev s_Machine_repr : Stmt := inClass (topS 31) 17
theorem sc_Machine_repr : FnScope ["self"] ["self"] (defScope s_Machine_repr) := ⟨rfl, rfl, rfl, by decide +kernel, rfl, by decide +kernel, by decide +kernel⟩
abbrev s_Machine_invert : Stmt := inClass (topS 31) 21
theorem sc_Machine_invert : FnScope ["self"] ["self"] (defScope s_Machine_invert) := ⟨rfl, rfl, rfl, by decide +kernel, rfl, by decide +kernel, by decide +kernel⟩
/-- what the top has left of a method -/
structure Dm (K : PySem.W.Frag) (C : Addr) (x qual : Str) (st : Stmt) (ps : List Str) (f : Addr) (fd : FuncData) : Prop where
  F : Fun K x qual st f fd
  b : L2.Binds K fd ps []
  m : Meth K C x f
/-- .. of a property -/
structure Dp1 (K : PySem.W.Frag) (C : Addr) (x qual : Str) (st : Stmt) (p f : Addr) (fd : FuncData) : Prop where
  F : Fun K x qual st f fd
  b : L2.Binds K fd ["self"] []
  p : PropOf K C x p f
/-- what the top has left of a def -/
structure Dn (K : PySem.W.Frag) (mg : Str → Option Value) (x : Str) (st : Stmt) (ps : List Str) (f : Addr) (fd : FuncData) : Prop where
  F : Fun K x x st f fd
  b : L2.Binds K fd ps []
  g : mg x = some (.ref f)
abbrev s_NotComeTo_init : Stmt := inClass (topS 13) 0
theorem es_NotComeTo : ErrS ["self", "place"] (defArgs s_NotComeTo_init) (defScope s_NotComeTo_init) := ⟨rfl, rfl, by decide +kernel, ⟨_, rfl, rfl⟩, rfl, by decide, rfl, by decide +kernel, rfl, rfl⟩
theorem eb_NotComeTo : Bd1 (defScope s_NotComeTo_init) (defBody s_NotComeTo_init) "place" "place" := ⟨_, _, _, _, _, _, _, _, _, _, _, _, rfl, fun _ _ _ _ _ => ⟨_, rfl⟩, ⟨rfl, by decide, fun _ _ _ _ _ => rfl⟩⟩
abbrev PW : Program := PySem.Challenge.pw_missedparts_k74_whole_kinds_and_goals_tu
structure All (K : PySem.W.Frag) (mg : Str → Option Value) where
  C_NotComeTo : Addr
  g_NotComeTo : mg "NotComeTo" = some (.ref C_NotComeTo)
  er_NotComeTo : Er1 PW K mg C_NotComeTo "place" "place"
  xf_NotComeTo : XfC K C_NotComeTo
  te_NotComeTo : PySem.W.exmOne K (.ref C_NotComeTo) (.ref C_NotComeTo) = some true
  nf_NotComeTo_place : PySem.W.findIn K (.ref C_NotComeTo) "place" = some none
  f_is_integer : Addr
  d_is_integer : FuncData
  is_integer : Dn K mg "is_integer" s_is_integer ["value"] f_is_integer d_is_integer
  f_is_count : Addr
  d_is_count : FuncData
  is_count : Dn K mg "is_count" s_is_count ["value"] f_is_count d_is_count
  f_is_list : Addr
  d_is_list : FuncData
  is_list : Dn K mg "is_list" s_is_list ["value"] f_is_list d_is_list
  f_is_text : Addr
  d_is_text : FuncData
  is_text : Dn K mg "is_text" s_is_text ["value"] f_is_text d_is_text
  f_are_letters : Addr
  d_are_letters : FuncData
  are_letters : Dn K mg "are_letters" s_are_letters ["value"] f_are_letters d_are_letters
  f_is_text_over : Addr
  d_is_text_over : FuncData
  is_text_over : Dn K mg "is_text_over" s_is_text_over ["letters", "value"] f_is_text_over d_is_text_over
  f_want_few : Addr
  d_want_few : FuncData
  want_few : Dn K mg "want_few" s_want_few ["what", "many", "limit"] f_want_few d_want_few
  f_is_row : Addr
  d_is_row : FuncData
  is_row : Dn K mg "is_row" s_is_row ["value", "size", "many"] f_is_row d_is_row
  f_want_machine : Addr
  d_want_machine : FuncData
  want_machine : Dn K mg "want_machine" s_want_machine ["letters", "rows", "kinds"] f_want_machine d_want_machine
  f_met_from : Addr
  d_met_from : FuncData
  met_from : Dn K mg "met_from" s_met_from ["rows", "start"] f_met_from d_met_from
  f_want_text : Addr
  d_want_text : FuncData
  want_text : Dn K mg "want_text" s_want_text ["letters", "text"] f_want_text d_want_text
  f_want_letter : Addr
  d_want_letter : FuncData
  want_letter : Dn K mg "want_letter" s_want_letter ["letters", "letter"] f_want_letter d_want_letter
  f_want_place : Addr
  d_want_place : FuncData
  want_place : Dn K mg "want_place" s_want_place ["machine", "place"] f_want_place d_want_place
  f_led : Addr
  d_led : FuncData
  led : Dn K mg "led" s_led ["machine", "place", "text"] f_led d_led
  f_is_taken : Addr
  d_is_taken : FuncData
  is_taken : Dn K mg "is_taken" s_is_taken ["machine", "text"] f_is_taken d_is_taken
  f_contrary : Addr
  d_contrary : FuncData
  contrary : Dn K mg "contrary" s_contrary ["machine"] f_contrary d_contrary
  f_lists_of : Addr
  d_lists_of : FuncData
  lists_of : Dn K mg "lists_of" s_lists_of ["rows"] f_lists_of d_lists_of
  f_want_listed : Addr
  d_want_listed : FuncData
  want_listed : Dn K mg "want_listed" s_want_listed ["machine", "places"] f_want_listed d_want_listed
  f_turned_by : Addr
  d_turned_by : FuncData
  turned_by : Dn K mg "turned_by" s_turned_by ["machine", "places"] f_turned_by d_turned_by
  f_turned : Addr
  d_turned : FuncData
  turned : Dn K mg "turned" s_turned ["machine", "places"] f_turned d_turned
  f_redirected : Addr
  d_redirected : FuncData
  redirected : Dn K mg "redirected" s_redirected ["machine", "place", "letter", "goal"] f_redirected d_redirected
  f_law_pot : Addr
  d_law_pot : FuncData
  law_pot : Dn K mg "_law_pot" s_law_pot ["_law_script", "_law_k"] f_law_pot d_law_pot
  f_law_draw : Addr
  d_law_draw : FuncData
  law_draw : Dn K mg "_law_draw" s_law_draw ["_law_pot_here", "_law_size"] f_law_draw d_law_draw
  f_law_pick : Addr
  d_law_pick : FuncData
  law_pick : Dn K mg "_law_pick" s_law_pick ["_law_pot_here", "_law_pack"] f_law_pick d_law_pick
  f_law_met : Addr
  d_law_met : FuncData
  law_met : Dn K mg "_law_met" s_law_met ["_law_rows_here"] f_law_met d_law_met
  f_law_turned : Addr
  d_law_turned : FuncData
  law_turned : Dn K mg "_law_turned" s_law_turned ["_law_pot_here", "_law_rows_here"] f_law_turned d_law_turned
  f_law_rows : Addr
  d_law_rows : FuncData
  law_rows : Dn K mg "_law_rows" s_law_rows ["_law_pot_here", "_law_signs_here", "_law_most"] f_law_rows d_law_rows
  f_law_model : Addr
  d_law_model : FuncData
  law_model : Dn K mg "_law_model" s_law_model ["_law_pot_here", "_law_signs_here", "_law_most"] f_law_model d_law_model
  f_law_machine : Addr
  d_law_machine : FuncData
  law_machine : Dn K mg "_law_machine" s_law_machine ["_law_model_here"] f_law_machine d_law_machine
  f_law_signs : Addr
  d_law_signs : FuncData
  law_signs : Dn K mg "_law_signs" s_law_signs ["_law_pot_here"] f_law_signs d_law_signs
  f_law_takes : Addr
  d_law_takes : FuncData
  law_takes : Dn K mg "_law_takes" s_law_takes ["_law_model_here", "_law_text"] f_law_takes d_law_takes
  f_law_words : Addr
  d_law_words : FuncData
  law_words : Dn K mg "_law_words" s_law_words ["_law_signs_here", "_law_most"] f_law_words d_law_words
  f_law_mixed : Addr
  d_law_mixed : FuncData
  law_mixed : Dn K mg "_law_mixed" s_law_mixed ["_law_pot_here", "_law_some"] f_law_mixed d_law_mixed
  f_law_turned_model : Addr
  d_law_turned_model : FuncData
  law_turned_model : Dn K mg "_law_turned_model" s_law_turned_model ["_law_model_here", "_law_spots"] f_law_turned_model d_law_turned_model
  f_law_spots_right : Addr
  d_law_spots_right : FuncData
  law_spots_right : Dn K mg "_law_spots_right" s_law_spots_right ["_law_pot_here", "_law_model_here", "_law_net"] f_law_spots_right d_law_spots_right
  f_law_led : Addr
  d_law_led : FuncData
  law_led : Dn K mg "_law_led" s_law_led ["_law_net", "_law_spot", "_law_sign", "_law_goal_now"] f_law_led d_law_led
  f_law_led_right : Addr
  d_law_led_right : FuncData
  law_led_right : Dn K mg "_law_led_right" s_law_led_right ["_law_net", "_law_told", "_law_spot", "_law_sign", "_law_goals"] f_law_led_right d_law_led_right
  f_law_steps_right : Addr
  d_law_steps_right : FuncData
  law_steps_right : Dn K mg "_law_steps_right" s_law_steps_right ["_law_model_here", "_law_net"] f_law_steps_right d_law_steps_right
  f_law_great_right : Addr
  d_law_great_right : FuncData
  law_great_right : Dn K mg "_law_great_right" s_law_great_right ["_law_pot_here"] f_law_great_right d_law_great_right
  f_law_right : Addr
  d_law_right : FuncData
  law_right : Dn K mg "_law_right" s_law_right ["_law_pot_here"] f_law_right d_law_right
  f_law : Addr
  d_law : FuncData
  law : Dn K mg "law" s_law ["_law_script"] f_law d_law
  C_Machine : Addr
  cl_Machine : Cls K C_Machine
  g_Machine : mg "Machine" = some (.ref C_Machine)
  mk_Machine : PySem.W.makesIn K C_Machine = true
  kp_Machine : PySem.W.keepIn K (.ref C_Machine) = true
  ca_Machine : PySem.W.findIn K (.ref C_Machine) "__class__" = some (some (.builtin "object.__class__"))
  cg_Machine : PySem.W.specialIn K (.builtin "object.__class__") "__get__" = some (some (.builtin "getset_descriptor.__get__"))
  ct_Machine : PySem.W.takesIn K (.builtin "object.__class__") = some true
  ne_Machine : PySem.W.findIn K (.ref C_Machine) "__ne__" = some (some (.builtin "object.__ne__"))
  tt_Machine : PySem.W.typeIn K (.ref C_Machine) = some (.type "type")
  cr_Machine : ClX.CRead K C_Machine (.type "type")
  cv_Machine_MOST_PLACES : ∃ t, ClX.CVal K C_Machine (.type "type") "MOST_PLACES" (.int 40) (.int 40 t)
  n_Machine_own_letters : NoAttr K C_Machine "own_letters"
  n_Machine_own_rows : NoAttr K C_Machine "own_rows"
  n_Machine_own_kinds : NoAttr K C_Machine "own_kinds"
  k_Machine_MOST_PLACES : ∃ t, Con K C_Machine "MOST_PLACES" (.int 40) (.int 40 t)
  f_Machine_init : Addr
  d_Machine_init : FuncData
  Machine_init : Dm K C_Machine "__init__" "Machine.__init__" s_Machine_init ["self", "letters", "rows", "kinds"] f_Machine_init d_Machine_init
  f_Machine_rows : Addr
  d_Machine_rows : FuncData
  Machine_rows : Dm K C_Machine "rows" "Machine.rows" s_Machine_rows ["self"] f_Machine_rows d_Machine_rows
  f_Machine_kinds : Addr
  d_Machine_kinds : FuncData
  Machine_kinds : Dm K C_Machine "kinds" "Machine.kinds" s_Machine_kinds ["self"] f_Machine_kinds d_Machine_kinds
  f_Machine_takes : Addr
  d_Machine_takes : FuncData
  Machine_takes : Dm K C_Machine "takes" "Machine.takes" s_Machine_takes ["self", "text"] f_Machine_takes d_Machine_takes
  f_Machine_eq : Addr
  d_Machine_eq : FuncData
  Machine_eq : Dm K C_Machine "__eq__" "Machine.__eq__" s_Machine_eq ["self", "other"] f_Machine_eq d_Machine_eq
  f_Machine_repr : Addr
  d_Machine_repr : FuncData
  Machine_repr : Dm K C_Machine "__repr__" "Machine.__repr__" s_Machine_repr ["self"] f_Machine_repr d_Machine_repr
  f_Machine_invert : Addr
  d_Machine_invert : FuncData
  Machine_invert : Dm K C_Machine "__invert__" "Machine.__invert__" s_Machine_invert ["self"] f_Machine_invert d_Machine_invert
  b_abs : mg "abs" = none
  b_all : mg "all" = none
  b_bool : mg "bool" = none
  b_divmod : mg "divmod" = none
  b_enumerate : mg "enumerate" = none
  b_int : mg "int" = none
  b_isinstance : mg "isinstance" = none
  b_len : mg "len" = none
  b_list : mg "list" = none
  b_max : mg "max" = none
  b_min : mg "min" = none
  b_property : mg "property" = none
  b_range : mg "range" = none
  b_repr : mg "repr" = none
  b_set : mg "set" = none
  b_sorted : mg "sorted" = none
  b_str : mg "str" = none
  b_super : mg "super" = none
  b_tuple : mg "tuple" = none
  b_zip : mg "zip" = none
  c_SMALL : ∃ t, mg "SMALL" = some (.str "abcdefghijklmnopqrstuvwxyz" t)
  c_MOST_LETTERS : ∃ t, mg "MOST_LETTERS" = some (.int 3 t)
end Lw
/-! Places that are come to, numbered as come to; least texts: plain Lean. -/
namespace M14
def row (R : List (List Nat)) (p : Nat) : List Nat := R.getD p []
def addG (f : List Nat) (g : Nat) : List Nat := if g ∈ f then f else f ++ [g]
def metI (R : List (List Nat)) (s : Nat) : Nat → List Nat
  | 0 => [s]
  | n + 1 => match (metI R s n)[n]? with
    | some p => (row R p).foldl addG (metI R s n)
    | none => metI R s n
def met (R : List (List Nat)) (s : Nat) : List Nat := metI R s R.length
theorem row_get {R : List (List Nat)} {p : Nat} {r : List Nat} (h : R[p]? = some r) : row R p = r := by unfold row; rw [List.getD_eq_getElem?_getD, h]; rfl
theorem row_mem {R : List (List Nat)} {p : Nat} (h : p < R.length) : row R p ∈ R := by
  have e : row R p = R[p] := row_get (List.getElem?_eq_getElem h)
  rw [e]; exact List.getElem_mem h
theorem row_at {R : List (List Nat)} {p : Nat} (h : p < R.length) : R[p]? = some (row R p) := by
  rw [row_get (List.getElem?_eq_getElem h)]; exact List.getElem?_eq_getElem h
theorem addG_mem {f : List Nat} {g x : Nat} : x ∈ addG f g ↔ x ∈ f ∨ x = g := by
  unfold addG
  split
  · rename_i h
    exact ⟨.inl, fun z => z.elim id fun e => e ▸ h⟩
  · rw [List.mem_append, List.mem_singleton]
theorem addG_nodup {f : List Nat} {g : Nat} (h : f.Nodup) : (addG f g).Nodup := by
  unfold addG
  split
  · exact h
  · rename_i hn
    rw [List.nodup_append]
    refine ⟨h, (by simp), fun a ha b hb e => ?_⟩
    rw [List.mem_singleton] at hb
    exact hn (hb ▸ e ▸ ha)
theorem addG_pre (f : List Nat) (g : Nat) : f <+: addG f g := by
  unfold addG
  split
  · exact List.prefix_refl _
  · exact List.prefix_append _ _
theorem fold_mem {x : Nat} : ∀ {l f : List Nat}, x ∈ l.foldl addG f ↔ x ∈ f ∨ x ∈ l
  | [], f => by simp
  | a :: l, f => by
    rw [List.foldl_cons, fold_mem, addG_mem, List.mem_cons]
    constructor
    · rintro ((h | h) | h)
      · exact .inl h
      · exact .inr (.inl h)
      · exact .inr (.inr h)
    · rintro (h | h | h)
      · exact .inl (.inl h)
      · exact .inl (.inr h)
      · exact .inr h
theorem fold_nodup : ∀ {l f : List Nat}, f.Nodup → (l.foldl addG f).Nodup
  | [], _, h => h
  | a :: l, f, h => fold_nodup (l := l) (addG_nodup h)
theorem fold_pre : ∀ (l f : List Nat), f <+: l.foldl addG f
  | [], f => List.prefix_refl _
  | a :: l, f => (addG_pre f a).trans (fold_pre l _)
theorem metI_succ {R : List (List Nat)} {s n p : Nat} (h : (metI R s n)[n]? = some p) : metI R s (n + 1) = (row R p).foldl addG (metI R s n) := by
  show (match (metI R s n)[n]? with | some p => _ | none => _) = _
  rw [h]
theorem metI_stay {R : List (List Nat)} {s n : Nat} (h : (metI R s n).length ≤ n) : metI R s (n + 1) = metI R s n := by
  show (match (metI R s n)[n]? with | some p => _ | none => _) = _
  rw [List.getElem?_eq_none h]
theorem metI_pre1 (R : List (List Nat)) (s n : Nat) : metI R s n <+: metI R s (n + 1) := by
  cases h : (metI R s n)[n]? with
  | none => rw [metI_stay (List.getElem?_eq_none_iff.mp h)]; exact List.prefix_refl _
  | some p => rw [metI_succ h]; exact fold_pre _ _
theorem metI_pre (R : List (List Nat)) (s n : Nat) : ∀ k, metI R s n <+: metI R s (n + k)
  | 0 => List.prefix_refl _
  | k + 1 => (metI_pre R s n k).trans (metI_pre1 R s (n + k))
theorem metI_keep {R : List (List Nat)} {s n : Nat} (h : (metI R s n).length ≤ n) : ∀ k, metI R s (n + k) = metI R s n
  | 0 => rfl
  | k + 1 => by
    have e := metI_keep h k
    rw [← Nat.add_assoc, metI_stay (by rw [e]; omega), e]
theorem metI_uniq {R : List (List Nat)} {s a b : Nat} (ha : (metI R s a).length ≤ a) (hb : (metI R s b).length ≤ b) : metI R s a = metI R s b := by
  rcases Nat.le_total a b with h | h
  · obtain ⟨k, rfl⟩ := Nat.exists_eq_add_of_le h
    exact (metI_keep ha k).symm
  · obtain ⟨k, rfl⟩ := Nat.exists_eq_add_of_le h
    exact metI_keep hb k
theorem metI_nodup (R : List (List Nat)) (s : Nat) : ∀ n, (metI R s n).Nodup
  | 0 => by show [s].Nodup; simp
  | n + 1 => by
    cases h : (metI R s n)[n]? with
    | none => rw [metI_stay (List.getElem?_eq_none_iff.mp h)]; exact metI_nodup R s n
    | some p => rw [metI_succ h]; exact fold_nodup (metI_nodup R s n)
theorem metI_in {R : List (List Nat)} {s : Nat} {S : Nat → Prop} (h0 : S s) (hc : ∀ p, S p → ∀ g ∈ row R p, S g) : ∀ n x, x ∈ metI R s n → S x
  | 0, x, hx => by rw [List.mem_singleton.mp hx]; exact h0
  | n + 1, x, hx => by
    cases h : (metI R s n)[n]? with
    | none => rw [metI_stay (List.getElem?_eq_none_iff.mp h)] at hx; exact metI_in h0 hc n x hx
    | some p =>
      rw [metI_succ h] at hx
      rcases fold_mem.mp hx with hx | hx
      · exact metI_in h0 hc n x hx
      · exact hc p (metI_in h0 hc n p (List.mem_of_getElem? h)) x hx
theorem nodup_len : ∀ (n : Nat) (l : List Nat), l.Nodup → (∀ x ∈ l, x < n) → l.length ≤ n
  | 0, l, _, h => by
    cases l with
    | nil => exact Nat.le_refl _
    | cons a l => exact absurd (h a List.mem_cons_self) (Nat.not_lt_zero _)
  | n + 1, l, hd, h => by
    by_cases hm : n ∈ l
    · have h1 := nodup_len n (l.erase n) (hd.erase n) fun x hx => by
        have h2 := (List.Nodup.mem_erase_iff hd).mp hx
        have := h x h2.2
        have := h2.1
        omega
      rw [List.length_erase_of_mem hm] at h1
      omega
    · have h1 := nodup_len n l hd fun x hx => by
        have := h x hx
        have : x ≠ n := fun e => hm (e ▸ hx)
        omega
      omega
/-- rows in range -/
def Val (R : List (List Nat)) : Prop := ∀ p, p < R.length → ∀ g ∈ row R p, g < R.length
theorem metI_lt {R : List (List Nat)} {s : Nat} (v : Val R) (hs : s < R.length) (n x : Nat) (h : x ∈ metI R s n) : x < R.length := metI_in (S := fun x => x < R.length) hs v n x h
theorem metI_len {R : List (List Nat)} {s : Nat} (v : Val R) (hs : s < R.length) (n : Nat) : (metI R s n).length ≤ R.length := nodup_len _ _ (metI_nodup R s n) (metI_lt v hs n)
theorem met_of {R : List (List Nat)} {s n : Nat} (v : Val R) (hs : s < R.length) (h : (metI R s n).length ≤ n) : metI R s n = met R s := metI_uniq h (metI_len v hs _)
theorem met_nodup (R : List (List Nat)) (s : Nat) : (met R s).Nodup := metI_nodup _ _ _
theorem met_lt {R : List (List Nat)} {s x : Nat} (v : Val R) (hs : s < R.length) (h : x ∈ met R s) : x < R.length := metI_lt v hs _ x h
theorem met_len {R : List (List Nat)} {s : Nat} (v : Val R) (hs : s < R.length) : (met R s).length ≤ R.length := metI_len v hs _
theorem metI_head (R : List (List Nat)) (s n : Nat) : (metI R s n)[0]? = some s := by
  have h := metI_pre R s 0 n
  rw [Nat.zero_add] at h
  obtain ⟨t, e⟩ := h
  rw [← e]
  rfl
theorem met_head (R : List (List Nat)) (s : Nat) : (met R s)[0]? = some s := metI_head _ _ _
theorem met_self (R : List (List Nat)) (s : Nat) : s ∈ met R s := List.mem_of_getElem? (met_head R s)
theorem met_closed {R : List (List Nat)} {s p g : Nat} (v : Val R) (hs : s < R.length) (hp : p ∈ met R s) (hg : g ∈ row R p) : g ∈ met R s := by
  obtain ⟨i, hi⟩ := List.mem_iff_getElem?.mp hp
  have hl := (List.getElem?_eq_some_iff.mp hi).1
  have hl2 := met_len v hs
  have hlt : i < (metI R s i).length := by
    rcases Nat.lt_or_ge i (metI R s i).length with h | h
    · exact h
    · rw [← met_of v hs h] at hl
      exact absurd hl (Nat.not_lt.mpr h)
  obtain ⟨k, hk⟩ := Nat.exists_eq_add_of_le (show i + 1 ≤ R.length by omega)
  have hpre := metI_pre R s i (1 + k)
  have e1 : (metI R s i)[i]? = some p := by
    rw [← hi]
    have e : i + (1 + k) = R.length := by omega
    rw [e] at hpre
    obtain ⟨t, e2⟩ := hpre
    show _ = (metI R s R.length)[i]?
    rw [← e2, List.getElem?_append_left hlt]
  have h2 : g ∈ metI R s (i + 1) := by
    rw [metI_succ e1]
    exact fold_mem.mpr (.inr hg)
  have h3 := metI_pre R s (i + 1) k
  rw [← hk] at h3
  exact h3.subset h2
/-! ### numbered otherwise -/
def ren (od : List Nat) (R : List (List Nat)) : List (List Nat) := od.map fun p => (row R p).map fun g => od.idxOf g
theorem idx_get {od : List Nat} {x : Nat} (h : x ∈ od) : od[od.idxOf x]? = some x := by
  have h1 := List.idxOf_lt_length_of_mem h
  rw [List.getElem?_eq_getElem h1, List.getElem_idxOf h1]
theorem idx_inj {od : List Nat} {x y : Nat} (hx : x ∈ od) (hy : y ∈ od) (e : od.idxOf x = od.idxOf y) : x = y := by
  have h1 := idx_get hx
  rw [e, idx_get hy] at h1
  exact (Option.some.inj h1).symm
theorem idx_at {od : List Nat} (hd : od.Nodup) {i x : Nat} (h : od[i]? = some x) : od.idxOf x = i := by
  obtain ⟨hi, e⟩ := List.getElem?_eq_some_iff.mp h
  have hm : x ∈ od := List.mem_of_getElem? h
  have h1 := List.idxOf_lt_length_of_mem hm
  have h2 : od[od.idxOf x] = x := List.getElem_idxOf h1
  rcases Nat.lt_trichotomy (od.idxOf x) i with z | z | z
  · exact absurd (h2.trans e.symm) (List.pairwise_iff_getElem.mp hd _ _ h1 hi z)
  · exact z
  · exact absurd (e.trans h2.symm) (List.pairwise_iff_getElem.mp hd _ _ hi h1 z)
theorem ren_row {od : List Nat} {R : List (List Nat)} {p : Nat} (h : p ∈ od) : row (ren od R) (od.idxOf p) = (row R p).map fun g => od.idxOf g := by
  refine row_get ?_
  unfold ren
  rw [List.getElem?_map, idx_get h]
  rfl
theorem addG_map {od : List Nat} {f : List Nat} {g : Nat} (hf : ∀ x ∈ f, x ∈ od) (hg : g ∈ od) : addG (f.map fun g => od.idxOf g) (od.idxOf g) = (addG f g).map fun g => od.idxOf g := by
  unfold addG
  by_cases h : g ∈ f
  · rw [if_pos h, if_pos (List.mem_map.mpr ⟨g, h, rfl⟩)]
  · rw [if_neg h, if_neg fun z => ?_, List.map_append]
    · rfl
    · obtain ⟨x, hx, e⟩ := List.mem_map.mp z
      exact h (idx_inj (hf x hx) hg e ▸ hx)
theorem fold_map {od : List Nat} : ∀ {l f : List Nat}, (∀ x ∈ f, x ∈ od) → (∀ x ∈ l, x ∈ od) → (l.map fun g => od.idxOf g).foldl addG (f.map fun g => od.idxOf g) = (l.foldl addG f).map fun g => od.idxOf g
  | [], f, _, _ => rfl
  | a :: l, f, hf, hl => by
    rw [List.map_cons, List.foldl_cons, List.foldl_cons, addG_map hf (hl a List.mem_cons_self)]
    exact fold_map (fun x hx => (addG_mem.mp hx).elim (hf x) fun e => e ▸ hl a List.mem_cons_self) fun x hx => hl x (List.mem_cons_of_mem _ hx)
theorem ren_metI {od : List Nat} {R : List (List Nat)} {s : Nat} (hs : s ∈ od) (hc : ∀ p ∈ od, ∀ g ∈ row R p, g ∈ od) : ∀ n, metI (ren od R) (od.idxOf s) n = (metI R s n).map fun g => od.idxOf g
  | 0 => rfl
  | n + 1 => by
    have ih := ren_metI hs hc n
    have hin := metI_in (S := fun x => x ∈ od) hs hc n
    cases h : (metI R s n)[n]? with
    | none =>
      have hl := List.getElem?_eq_none_iff.mp h
      rw [metI_stay hl, metI_stay (by rw [ih, List.length_map]; exact hl), ih]
    | some p =>
      have hp := hin p (List.mem_of_getElem? h)
      rw [metI_succ h, metI_succ (p := od.idxOf p) (by rw [ih, List.getElem?_map, h]; rfl), ih, ren_row hp, fold_map hin (hc p hp)]
theorem ren_len (od : List Nat) (R : List (List Nat)) : (ren od R).length = od.length := by unfold ren; rw [List.length_map]
theorem ren_val {od : List Nat} {R : List (List Nat)} (hd : od.Nodup) (hc : ∀ p ∈ od, ∀ g ∈ row R p, g ∈ od) : Val (ren od R) := by
  intro i hi g hg
  rw [ren_len] at hi ⊢
  have e : od.idxOf od[i] = i := idx_at hd (List.getElem?_eq_getElem hi)
  rw [← e, ren_row (List.getElem_mem hi)] at hg
  obtain ⟨x, hx, rfl⟩ := List.mem_map.mp hg
  exact List.idxOf_lt_length_of_mem (hc _ (List.getElem_mem hi) x hx)
theorem ren_met {od : List Nat} {R : List (List Nat)} {s : Nat} (hd : od.Nodup) (hs : s ∈ od) (hc : ∀ p ∈ od, ∀ g ∈ row R p, g ∈ od) (v : Val R) (hs2 : s < R.length) : met (ren od R) (od.idxOf s) = (met R s).map fun g => od.idxOf g := by
  have hv := ren_val hd hc
  have hi : od.idxOf s < (ren od R).length := by rw [ren_len]; exact List.idxOf_lt_length_of_mem hs
  have h1 : (metI (ren od R) (od.idxOf s) R.length).length ≤ R.length := by
    rw [ren_metI hs hc, List.length_map]; exact metI_len v hs2 _
  rw [← met_of hv hi h1, ren_metI hs hc]
  rfl
/-- a sheet of a machine with n letters -/
structure Sht (n : Nat) (R : List (List Nat)) (k : List Bool) : Prop where
  ne : 0 < R.length
  few : R.length ≤ 40
  len : ∀ r ∈ R, r.length = n
  val : Val R
  kin : k.length = R.length
/-- .. of which all places are come to -/
structure Good (n : Nat) (R : List (List Nat)) (k : List Bool) : Prop extends Sht n R k where
  all : ∀ p, p < R.length → p ∈ met R 0
def kAt (k : List Bool) (p : Nat) : Bool := k.getD p false
/-- numbered in the sequence od -/
theorem good_ren {n : Nat} {R : List (List Nat)} {s : Nat} {od : List Nat} {k : List Bool} (v : Val R) (few : R.length ≤ 40) (len : ∀ r ∈ R, r.length = n) (hs : s < R.length) (hp : od.Perm (met R s)) (h0 : od[0]? = some s) (hk : k.length = od.length) : Good n (ren od R) k := by
  have hd : od.Nodup := hp.nodup_iff.mpr (met_nodup R s)
  have hc : ∀ p ∈ od, ∀ g ∈ row R p, g ∈ od := fun p h g hg => hp.mem_iff.mpr (met_closed v hs (hp.mem_iff.mp h) hg)
  have hs1 : s ∈ od := List.mem_of_getElem? h0
  refine ⟨⟨?_, ?_, ?_, ren_val hd hc, by rw [ren_len]; exact hk⟩, fun p h => ?_⟩
  · rw [ren_len]; exact List.length_pos_iff.mpr fun e => by rw [e] at h0; cases h0
  · rw [ren_len, hp.length_eq]; exact Nat.le_trans (met_len v hs) few
  · intro r hr
    obtain ⟨p, h1, rfl⟩ := List.mem_map.mp hr
    rw [List.length_map]
    exact len _ (row_mem (met_lt v hs (hp.mem_iff.mp h1)))
  · have e := ren_met hd hs1 hc v hs
    rw [idx_at hd h0] at e
    rw [ren_len] at h
    rw [e, List.mem_map]
    exact ⟨od[p], hp.mem_iff.mp (List.getElem_mem h), idx_at hd (List.getElem?_eq_getElem h)⟩
/-- the same places from one of them on, numbered as come to -/
def fromR (R : List (List Nat)) (s : Nat) : List (List Nat) := ren (met R s) R
def fromK (R : List (List Nat)) (k : List Bool) (s : Nat) : List Bool := (met R s).map (kAt k)
theorem good_from {n : Nat} {R : List (List Nat)} {k : List Bool} {s : Nat} (h : Sht n R k) (hs : s < R.length) : Good n (fromR R s) (fromK R k s) :=
  good_ren h.val h.few h.len hs (List.Perm.refl _) (met_head R s) (by unfold fromK; rw [List.length_map])
/-! ### the least text to each place -/
def addF (t : List Nat) (L : List (Nat × List Nat)) (cg : Nat × Nat) : List (Nat × List Nat) := if cg.2 ∈ L.map (·.1) then L else L ++ [(cg.2, t ++ [cg.1])]
def fstI (sg : List Nat) (R : List (List Nat)) : Nat → List (Nat × List Nat)
  | 0 => [(0, [])]
  | n + 1 => match (fstI sg R n)[n]? with
    | some q => (sg.zip (row R q.1)).foldl (addF q.2) (fstI sg R n)
    | none => fstI sg R n
theorem fstI_succ {sg : List Nat} {R : List (List Nat)} {n : Nat} {q : Nat × List Nat} (h : (fstI sg R n)[n]? = some q) : fstI sg R (n + 1) = (sg.zip (row R q.1)).foldl (addF q.2) (fstI sg R n) := by
  show (match (fstI sg R n)[n]? with | some q => _ | none => _) = _
  rw [h]
theorem fstI_stay {sg : List Nat} {R : List (List Nat)} {n : Nat} (h : (fstI sg R n).length ≤ n) : fstI sg R (n + 1) = fstI sg R n := by
  show (match (fstI sg R n)[n]? with | some q => _ | none => _) = _
  rw [List.getElem?_eq_none h]
theorem addF_keys (t : List Nat) (L : List (Nat × List Nat)) (cg : Nat × Nat) : (addF t L cg).map (·.1) = addG (L.map (·.1)) cg.2 := by
  unfold addF addG
  split
  · rfl
  · rw [List.map_append]; rfl
theorem foldF_keys (t : List Nat) : ∀ (l : List (Nat × Nat)) (L : List (Nat × List Nat)), (l.foldl (addF t) L).map (·.1) = (l.map (·.2)).foldl addG (L.map (·.1))
  | [], L => rfl
  | a :: l, L => by rw [List.foldl_cons, List.map_cons, List.foldl_cons, ← addF_keys t, foldF_keys t l]
theorem zip_snd : ∀ {a b : List Nat}, a.length = b.length → (a.zip b).map (·.2) = b
  | [], [], _ => rfl
  | x :: a, y :: b, h => by
    rw [List.zip_cons_cons, List.map_cons, zip_snd (by simpa using h)]
theorem fstI_keys {sg : List Nat} {R : List (List Nat)} {k : List Bool} (h : Sht sg.length R k) : ∀ n, (fstI sg R n).map (·.1) = metI R 0 n
  | 0 => rfl
  | n + 1 => by
    have ih := fstI_keys h n
    cases e : (fstI sg R n)[n]? with
    | none =>
      have hl := List.getElem?_eq_none_iff.mp e
      rw [fstI_stay hl, metI_stay (by rw [← ih, List.length_map]; exact hl), ih]
    | some q =>
      have e2 : (metI R 0 n)[n]? = some q.1 := by rw [← ih, List.getElem?_map, e]; rfl
      have hq : q.1 < R.length := metI_lt h.val h.ne n _ (List.mem_of_getElem? e2)
      rw [fstI_succ e, metI_succ e2, foldF_keys, ih, zip_snd (h.len _ (row_mem hq)).symm]
theorem fstI_len {sg : List Nat} {R : List (List Nat)} {k : List Bool} (h : Sht sg.length R k) (n : Nat) : (fstI sg R n).length = (metI R 0 n).length := by rw [← fstI_keys h n, List.length_map]
theorem fstI_keep {sg : List Nat} {R : List (List Nat)} {n : Nat} (h : (fstI sg R n).length ≤ n) : ∀ k, fstI sg R (n + k) = fstI sg R n
  | 0 => rfl
  | k + 1 => by
    have e := fstI_keep h k
    rw [← Nat.add_assoc, fstI_stay (by rw [e]; omega), e]
theorem fstI_uniq {sg : List Nat} {R : List (List Nat)} {a b : Nat} (ha : (fstI sg R a).length ≤ a) (hb : (fstI sg R b).length ≤ b) : fstI sg R a = fstI sg R b := by
  rcases Nat.le_total a b with h | h
  · obtain ⟨k, rfl⟩ := Nat.exists_eq_add_of_le h
    exact (fstI_keep ha k).symm
  · obtain ⟨k, rfl⟩ := Nat.exists_eq_add_of_le h
    exact fstI_keep hb k
def fst (sg : List Nat) (R : List (List Nat)) : List (Nat × List Nat) := fstI sg R R.length
theorem fst_of {sg : List Nat} {R : List (List Nat)} {k : List Bool} (h : Sht sg.length R k) {n : Nat} (hn : (fstI sg R n).length ≤ n) : fstI sg R n = fst sg R :=
  fstI_uniq hn (by rw [fstI_len h]; exact metI_len h.val h.ne _)
/-- texts of letters, not too long -/
def TOk (sg : List Nat) (n : Nat) (L : List (Nat × List Nat)) : Prop := ∀ q ∈ L, q.2.length ≤ n ∧ ∀ c ∈ q.2, c ∈ sg
theorem foldF_ok {sg t : List Nat} {n : Nat} (ht : t.length + 1 ≤ n) (hc : ∀ c ∈ t, c ∈ sg) : ∀ {l : List (Nat × Nat)} {L : List (Nat × List Nat)}, (∀ x ∈ l, x.1 ∈ sg) → TOk sg n L → TOk sg n (l.foldl (addF t) L)
  | [], L, _, h => h
  | a :: l, L, hl, h => by
    rw [List.foldl_cons]
    refine foldF_ok ht hc (fun x hx => hl x (List.mem_cons_of_mem _ hx)) fun q hq => ?_
    unfold addF at hq
    split at hq
    · exact h q hq
    · rcases List.mem_append.mp hq with hq | hq
      · exact h q hq
      · rw [List.mem_singleton.mp hq]
        refine ⟨by rw [List.length_append]; exact ht, fun c hcm => ?_⟩
        rcases List.mem_append.mp hcm with z | z
        · exact hc c z
        · rw [List.mem_singleton.mp z]; exact hl a List.mem_cons_self
theorem zip_fst {a b : List Nat} {x : Nat × Nat} (h : x ∈ a.zip b) : x.1 ∈ a := (List.of_mem_zip h).1
theorem fstI_ok (sg : List Nat) (R : List (List Nat)) : ∀ n, TOk sg n (fstI sg R n)
  | 0 => fun q hq => by rw [List.mem_singleton.mp hq]; exact ⟨Nat.le_refl _, fun c hc => by cases hc⟩
  | n + 1 => by
    have ih := fstI_ok sg R n
    have ih' : TOk sg (n + 1) (fstI sg R n) := fun q hq => ⟨Nat.le_succ_of_le (ih q hq).1, (ih q hq).2⟩
    cases e : (fstI sg R n)[n]? with
    | none => rw [fstI_stay (List.getElem?_eq_none_iff.mp e)]; exact ih'
    | some q =>
      have hq := ih q (List.mem_of_getElem? e)
      rw [fstI_succ e]
      exact foldF_ok (Nat.succ_le_succ hq.1) hq.2 (fun x hx => zip_fst hx) ih'
def txt (sg : List Nat) (R : List (List Nat)) (p : Nat) : List Nat := ((fst sg R).lookup p).getD []
/-! ### where texts lead -/
def led (sg : List Nat) (R : List (List Nat)) (p : Nat) (t : List Nat) : Nat := t.foldl (fun p c => (row R p).getD (sg.idxOf c) 0) p
theorem led_step {sg : List Nat} {R : List (List Nat)} {k : List Bool} (h : Sht sg.length R k) {p c : Nat} (hp : p < R.length) (hc : c ∈ sg) : ∃ g, (row R p)[sg.idxOf c]? = some g ∧ g < R.length ∧ (row R p).getD (sg.idxOf c) 0 = g := by
  have hl := h.len _ (row_mem hp)
  have hi : sg.idxOf c < (row R p).length := by rw [hl]; exact List.idxOf_lt_length_of_mem hc
  refine ⟨(row R p)[sg.idxOf c], List.getElem?_eq_getElem hi, h.val p hp _ (List.getElem_mem hi), ?_⟩
  rw [List.getD_eq_getElem?_getD, List.getElem?_eq_getElem hi]
  rfl
theorem led_lt {sg : List Nat} {R : List (List Nat)} {k : List Bool} (h : Sht sg.length R k) : ∀ {t : List Nat} {p : Nat}, p < R.length → (∀ c ∈ t, c ∈ sg) → led sg R p t < R.length
  | [], p, hp, _ => hp
  | c :: t, p, hp, hc => by
    obtain ⟨g, _, h2, h3⟩ := led_step h hp (hc c List.mem_cons_self)
    show led sg R ((row R p).getD (sg.idxOf c) 0) t < _
    rw [h3]
    exact led_lt h h2 fun x hx => hc x (List.mem_cons_of_mem _ hx)
theorem led_snoc (sg : List Nat) (R : List (List Nat)) (p : Nat) (t : List Nat) (c : Nat) : led sg R p (t ++ [c]) = (row R (led sg R p t)).getD (sg.idxOf c) 0 := by
  unfold led; rw [List.foldl_append]; rfl
end M14
/-! Kinds turned at some places, one goal changed: plain Lean. -/
namespace M74
open M14
def tk (k : List Bool) (S : List Nat) : List Bool := (List.range k.length).map fun i => kAt k i != decide (i ∈ S)
theorem tk_len (k : List Bool) (S : List Nat) : (tk k S).length = k.length := by unfold tk; rw [List.length_map, List.length_range]
theorem tk_at {k : List Bool} {S : List Nat} {i : Nat} (h : i < k.length) : kAt (tk k S) i = (kAt k i != decide (i ∈ S)) := by
  unfold tk
  show List.getD _ _ _ = _
  rw [List.getD_eq_getElem?_getD, List.getElem?_map, List.getElem?_range h]; rfl
theorem kAt_some {k : List Bool} {p : Nat} (h : p < k.length) : k[p]? = some (kAt k p) := by
  unfold kAt; rw [List.getD_eq_getElem?_getD, List.getElem?_eq_getElem h]; rfl
theorem ext_k {k l : List Bool} (hl : k.length = l.length) (h : ∀ i, i < k.length → kAt k i = kAt l i) : k = l := by
  refine List.ext_getElem? fun i => ?_
  by_cases hi : i < k.length
  · rw [kAt_some hi, kAt_some (by omega), h i hi]
  · rw [List.getElem?_eq_none (by omega), List.getElem?_eq_none (by omega)]
theorem tk_iff {k : List Bool} {S T : List Nat} (h : ∀ i, i ∈ S ↔ i ∈ T) : tk k S = tk k T := by
  unfold tk
  refine List.map_congr_left fun i _ => ?_
  rw [decide_eq_decide.mpr (h i)]
theorem tk_nil (k : List Bool) : tk k [] = k := ext_k (tk_len _ _) fun i hi => by
  rw [tk_len] at hi
  rw [tk_at hi]; simp
theorem tk_twice (k : List Bool) (S : List Nat) : tk (tk k S) S = k := ext_k (by rw [tk_len, tk_len]) fun i hi => by
  rw [tk_len, tk_len] at hi
  rw [tk_at (by rw [tk_len]; exact hi), tk_at hi]
  cases kAt k i <;> cases decide (i ∈ S) <;> rfl
theorem tk_snoc {k : List Bool} {S : List Nat} {x : Nat} (h : x ∉ S) : tk (tk k S) [x] = tk k (S ++ [x]) := ext_k (by rw [tk_len, tk_len, tk_len]) fun i hi => by
  rw [tk_len, tk_len] at hi
  rw [tk_at (by rw [tk_len]; exact hi), tk_at hi, tk_at hi]
  by_cases e : i = x
  · subst e
    simp [h]
  · simp [e]
theorem tk_all {k : List Bool} {S : List Nat} (h : ∀ i, i < k.length → i ∈ S) : tk k S = k.map not := ext_k (by rw [tk_len, List.length_map]) fun i hi => by
  rw [tk_len] at hi
  rw [tk_at hi, decide_eq_true (h i hi)]
  unfold kAt
  rw [List.getD_eq_getElem?_getD, List.getD_eq_getElem?_getD, List.getElem?_map, List.getElem?_eq_getElem hi]
  simp
theorem tk_good {n : Nat} {R : List (List Nat)} {k : List Bool} (h : Good n R k) (S : List Nat) : Good n R (tk k S) := ⟨⟨h.ne, h.few, h.len, h.val, by rw [tk_len]; exact h.kin⟩, h.all⟩
/-! ### one goal changed -/
def rd (R : List (List Nat)) (s a g : Nat) : List (List Nat) := R.set s ((row R s).set a g)
theorem rd_len (R : List (List Nat)) (s a g : Nat) : (rd R s a g).length = R.length := by unfold rd; rw [List.length_set]
theorem rd_row {R : List (List Nat)} {s a g : Nat} (h : s < R.length) : row (rd R s a g) s = (row R s).set a g := row_get (by unfold rd; rw [List.getElem?_set_self h])
theorem rd_rest {R : List (List Nat)} {s a g p : Nat} (hp : p ≠ s) : row (rd R s a g) p = row R p := by
  unfold rd row
  simp only [List.getD_eq_getElem?_getD]
  rw [List.getElem?_set_ne hp.symm]
theorem rd_sht {n : Nat} {R : List (List Nat)} {k : List Bool} {s a g : Nat} (h : Sht n R k) (hs : s < R.length) (hg : g < R.length) : Sht n (rd R s a g) k := by
  refine ⟨by rw [rd_len]; exact h.ne, by rw [rd_len]; exact h.few, fun r hr => ?_, fun p hp x hx => ?_, by rw [rd_len]; exact h.kin⟩
  · unfold rd at hr
    rcases List.mem_or_eq_of_mem_set hr with hr | rfl
    · exact h.len r hr
    · rw [List.length_set]; exact h.len _ (row_mem hs)
  · rw [rd_len] at hp ⊢
    by_cases e : p = s
    · subst e
      rw [rd_row hs] at hx
      rcases List.mem_or_eq_of_mem_set hx with hx | rfl
      · exact h.val p hp x hx
      · exact hg
    · rw [rd_rest e] at hx
      exact h.val p hp x hx
theorem set_same {l : List Nat} {a g : Nat} (h : l[a]? = some g) : l.set a g = l := by
  obtain ⟨h1, h2⟩ := List.getElem?_eq_some_iff.mp h
  rw [← h2, List.set_getElem_self]
theorem set_sameR {l : List (List Nat)} {a : Nat} {g : List Nat} (h : l[a]? = some g) : l.set a g = l := by
  obtain ⟨h1, h2⟩ := List.getElem?_eq_some_iff.mp h
  rw [← h2, List.set_getElem_self]
theorem rd_same {R : List (List Nat)} {s a g : Nat} (hs : s < R.length) (hg : (row R s)[a]? = some g) : rd R s a g = R := by
  unfold rd
  rw [set_same hg]
  exact set_sameR (row_at hs)
theorem rd_back {R : List (List Nat)} {s a g o : Nat} (hs : s < R.length) (ho : (row R s)[a]? = some o) : rd (rd R s a g) s a o = R := by
  have e := rd_row (a := a) (g := g) hs
  show (rd R s a g).set s ((row (rd R s a g) s).set a o) = R
  rw [e, List.set_set, set_same ho]
  unfold rd
  rw [List.set_set]
  exact set_sameR (row_at hs)
/-! ### all places are come to -/
theorem all_of_len {n : Nat} {R : List (List Nat)} {k : List Bool} (h : Sht n R k) (hl : (met R 0).length = R.length) : ∀ p, p < R.length → p ∈ met R 0 := by
  intro p hp
  refine Decidable.byContradiction fun hn => ?_
  have h2 : (p :: met R 0).Nodup := List.nodup_cons.mpr ⟨hn, met_nodup R 0⟩
  have := nodup_len R.length (p :: met R 0) h2 fun x hx => by
    rcases List.mem_cons.mp hx with rfl | hx
    · exact hp
    · exact met_lt h.val h.ne hx
  rw [List.length_cons] at this
  omega
theorem len_of_all {n : Nat} {R : List (List Nat)} {k : List Bool} (h : Sht n R k) (ha : ∀ p, p < R.length → p ∈ met R 0) : (met R 0).length = R.length := by
  refine Nat.le_antisymm (met_len h.val h.ne) ?_
  have key : ∀ (l m : List Nat), l.Nodup → (∀ x ∈ l, x ∈ m) → l.length ≤ m.length := by
    intro l
    induction l with
    | nil => intro m _ _; exact Nat.zero_le _
    | cons a l ih =>
      intro m hd hs
      obtain ⟨h1, h2⟩ := List.nodup_cons.mp hd
      have hm := hs a List.mem_cons_self
      have h3 := ih (m.erase a) h2 fun x hx => (List.mem_erase_of_ne (fun (e : x = a) => h1 (e ▸ hx))).mpr (hs x (List.mem_cons_of_mem _ hx))
      rw [List.length_erase_of_mem hm] at h3
      have : 0 < m.length := List.length_pos_of_mem hm
      rw [List.length_cons]; omega
  have := key (List.range R.length) (met R 0) List.nodup_range fun x hx => ha x (List.mem_range.mp hx)
  rw [List.length_range] at this
  exact this
theorem good_iff {n : Nat} {R : List (List Nat)} {k : List Bool} (h : Sht n R k) : Good n R k ↔ (met R 0).length = R.length := ⟨fun g => len_of_all h g.all, fun e => ⟨h, all_of_len h e⟩⟩
/-- numbered otherwise, 0 first: all stay come to -/
theorem ren_good {n : Nat} {R : List (List Nat)} {k l : List Bool} {od : List Nat} (h : Good n R k) (hp : od.Perm (List.range R.length)) (h0 : od[0]? = some 0) (hl : l.length = od.length) : Good n (ren od R) l := by
  have hm : (List.range R.length).Perm (met R 0) := by
    refine (List.perm_ext_iff_of_nodup List.nodup_range (met_nodup R 0)).mpr fun x => ⟨fun hx => h.all x (List.mem_range.mp hx), fun hx => List.mem_range.mpr (met_lt h.val h.ne hx)⟩
  exact good_ren h.val h.few h.len h.ne (hp.trans hm) h0 hl
end M74
namespace Lw
open PySem PySem.Spec PyProof.Rows L2 L3
/-- letters -/
structure Lets (sg : List Nat) : Prop where
  ne : 0 < sg.length
  few : sg.length ≤ 3
  up : sg.Pairwise (· < ·)
  az : ∀ c ∈ sg, 97 ≤ c ∧ c ≤ 122
theorem small_codes : (("abcdefghijklmnopqrstuvwxyz" : Str)).cps.toList = (List.range 26).map (· + 97) := by decide +kernel
theorem small_mem {c : Nat} (h : 97 ≤ c ∧ c ≤ 122) : c ∈ (("abcdefghijklmnopqrstuvwxyz" : Str)).cps.toList := by
  rw [small_codes]
  exact List.mem_map.mpr ⟨c - 97, List.mem_range.mpr (by omega), by omega⟩
theorem sz {n : Nat} (h : n ≤ 100000) : n ≤ sizeLine := by rw [sizeLine_eq]; omega
theorem ite_f {b : Bool} {p q : Prop} (e : b = false) (h : q) : if b = true then p else q := by rw [e]; exact h
theorem ite_t {b : Bool} {p q : Prop} (e : b = true) (h : p) : if b = true then p else q := by rw [e]; exact h
theorem u64 {k : Nat} {A : Around} (hr : Room k A) : A.units + 64 < cLine := by have := hr.units; omega
/-- rows: a list or a tuple of lists or tuples of numbers -/
def Rw (K : PySem.W.Frag) (H : Hp) (v : V) (R : List (List Nat)) : Prop := ∃ xs, Sq K H v xs ∧ xs.length = R.length ∧ ∀ (i : Nat) (x : V) (r : List Nat), xs[i]? = some x → R[i]? = some r → Sq K H x (nV r)
theorem Rw.same {K : PySem.W.Frag} {H H' : Hp} {v : V} {R : List (List Nat)} (h : Rw K H v R) (s : Same H H') : Rw K H' v R := by
  obtain ⟨xs, a, b, c⟩ := h
  exact ⟨xs, a.same s, b, fun i x r h1 h2 => (c i x r h1 h2).same s⟩
theorem ty_list {K : PySem.W.Frag} {H : Hp} {a : Addr} {xs : List V} (h : SqL K H a xs) : TyX K H (.ref a) (.type "list") := by
  rcases h with (h | ⟨o, h⟩) | ⟨o, its, n, hk, hc, _⟩
  · exact .base (.lst h)
  · exact .base (.frz h)
  · exact .kList hk hc
theorem ty_tuple {K : PySem.W.Frag} {H : Hp} {a : Addr} {xs : List V} (h : SqT K H a xs) : TyX K H (.ref a) (.type "tuple") := by
  rcases h with (h | ⟨o, h⟩) | ⟨o, its, n, hk, hc, _⟩
  · exact .base (.tup h)
  · exact .fTuple h
  · exact .kTuple hk hc
section
variable {P : Program} {w : World} {K : PySem.W.Frag} {mg : Str → Option Value} {base : Heap}
/-! ### is_integer -/
def spIsInteger : Sp := fun vs H Q _ => ∃ n, vs = [.int n] ∧ Q (.bl true) H
theorem ok_is_integer (T : All K mg) : FnOk P w K mg base CX0 1 T.f_is_integer T.d_is_integer ["value"] spIsInteger := by
  refine T.is_integer.F.ok sc_is_integer (fun vs H Q E h => ?_) (fun cdv A outer s H vs Q E hr h => ?_)
  · obtain ⟨n, rfl, _⟩ := h
    rfl
  · obtain ⟨n, rfl, q⟩ := h
    refine ⟨_, pss_one (ps_ret (pe_and (pe_callB call_isi (by rfl) T.b_isinstance boot_isinstance (pa_cons (pv 0) (pa_cons (pe_bltn (v := .ty "int") (by rfl) T.b_int (by decide +kernel) rfl) pa_nil)))
        (pe_one (pe_not (pe_callB call_isi (by rfl) T.b_isinstance boot_isinstance (pa_cons (pv 0) (pa_cons (pe_bltn (v := .ty "bool") (by rfl) T.b_bool (by decide +kernel) rfl) pa_nil))))))), ?_⟩
    refine ⟨_, rfl, _, .ty "int", .type "int", .type "int", true, rfl, .ty _, .base (.int _), kit_ty (by decide +kernel), true, rfl, iteT ?_⟩
    exact ⟨_, rfl, _, .ty "bool", .type "int", .type "bool", false, rfl, .ty _, .base (.int _), kit_ty (by decide +kernel), _, rfl, q⟩
/-! ### is_list -/
def spIsList (K : PySem.W.Frag) : Sp := fun vs H Q _ => ∃ v xs, vs = [v] ∧ Sq K H v xs ∧ ∀ H', Same H H' → Q (.bl true) H'
theorem ok_is_list (T : All K mg) : FnOk P w K mg base CX0 1 T.f_is_list T.d_is_list ["value"] (spIsList K) := by
  refine T.is_list.F.ok sc_is_list (fun vs H Q E h => ?_) (fun cdv A outer s H vs Q E hr h => ?_)
  · obtain ⟨n, xs, rfl, _⟩ := h
    rfl
  · obtain ⟨v, xs, rfl, hs, q⟩ := h
    refine ⟨_, pss_one (ps_ret (pe_callB call_isiT (by rfl) T.b_isinstance boot_isinstance (pa_cons (pv 0) (pa_cons (pe_tup (pa_cons (pe_bltn (v := .ty "list") (by rfl) T.b_list (by decide +kernel) rfl) (pa_cons (pe_bltn (v := .ty "tuple") (by rfl) T.b_tuple (by decide +kernel) rfl) pa_nil))) pa_nil)))), ?_⟩
    refine ⟨_, rfl, by show 2 ≤ sizeLine; decide, fun t nt => ?_⟩
    obtain ⟨a, rfl, hS⟩ := hs.same (same_upd (o := .tup [.ty "list", .ty "tuple"]) nt)
    rcases hS with h | h
    · exact ⟨_, t, [.ty "list", .ty "tuple"], .type "list", [.type "list", .type "tuple"], true, rfl, upd_same, .cons (.ty _) (.cons (.ty _) .nil), ty_list h, kitAny_cons (b := true) (kit_ty (by decide +kernel)) (fun z => by cases z) (fun _ => rfl), q _ (same_upd nt)⟩
    · exact ⟨_, t, [.ty "list", .ty "tuple"], .type "tuple", [.type "list", .type "tuple"], true, rfl, upd_same, .cons (.ty _) (.cons (.ty _) .nil), ty_tuple h, kitAny_cons (b := false) (kit_ty (by decide +kernel)) (fun _ => kitAny_cons (b := true) (kit_ty (by decide +kernel)) (fun z => by cases z) (fun _ => rfl)) (fun z => by cases z), q _ (same_upd nt)⟩
/-! ### is_text -/
def spIsText : Sp := fun vs H Q _ => ∃ l, vs = [tx l] ∧ (∀ c ∈ l, 97 ≤ c ∧ c ≤ 122) ∧ l.length ≤ 1000 ∧ ∀ H', Same H H' → Q (.bl true) H'
theorem ok_is_text (T : All K mg) : FnOk P w K mg base CX0 1 T.f_is_text T.d_is_text ["value"] spIsText := by
  refine T.is_text.F.ok sc_is_text (fun vs H Q E h => ?_) (fun cdv A outer s H vs Q E hr h => ?_)
  · obtain ⟨l, rfl, _⟩ := h
    rfl
  · obtain ⟨l, rfl, hl, hz, q⟩ := h
    obtain ⟨ts, hSMALL⟩ := T.c_SMALL
    refine ⟨_, pss_one (ps_ret (pe_and (pe_callB call_isi (by rfl) T.b_isinstance boot_isinstance (pa_cons (pv 0) (pa_cons (pe_bltn (v := .ty "str") (by rfl) T.b_str (by decide +kernel) rfl) pa_nil)))
        (pe_one (pe_callB (cr_all rfl) (by rfl) T.b_all PyProof.Rows.boot_all (pa_cons (pe_lc (own := [("sign", 1)]) (g := gName 1) (tt := tYes) rfl sc_is_text.nd (pi_str (pv 0))
          (blkOk_by (own := [("sign", 1)]) (N := ["value", "sign"]) (sc := defScope s_is_text) (by decide +kernel))
          (fun _ _ _ _ _ => pg_name (i := 1) sc_is_text.nd rfl (by first | exact Or.inl rfl | exact Or.inr rfl)) (fun _ _ _ _ _ => pts_nil)
          (fun _ _ _ _ _ => (pe_cmpR op_in_sign (pv 1) (pe_glob (v := .str "abcdefghijklmnopqrstuvwxyz") rfl hSMALL ⟨_, rfl⟩) (by rfl)))) pa_nil))))), ?_⟩
    refine ⟨tx l, rfl, tx l, .ty "str", .type "str", .type "str", true, rfl, .ty _, .base (.str _), kit_ty (by decide +kernel), true, rfl, iteT ?_⟩
    refine ⟨tx l, rfl, tS l, rfl, fun D nD => ?_⟩
    refine lc_gen walk_tx (Same H) (fun i acc => acc = List.replicate i (.bl true)) (sz (by omega)) (fun i acc e => by rw [e]; simp) rfl (same_upd nD) (fun _ _ h => same_up h nD) (fun _ _ => trivial) (fun i x H2 H3 acc C N hi r hD ha y c n => ?_) (fun H2 xs r hD ha => ?_)
    · obtain ⟨rfl, ch, hc, rfl⟩ := y
      refine ⟨rfl, yes_te ?_⟩
      refine ⟨_, rfl, ch, _, rfl, rfl, ?_⟩
      rw [decide_eq_true (small_mem (hl ch (List.mem_of_getElem? hc)))]
      exact c _ _ r hD (by rw [ha, List.replicate_succ'])
    · refine ⟨D, List.replicate l.length true, rfl, .inl (.inl ?_), ?_⟩
      · rw [hD, ha]
        simp
      · have e : (List.replicate l.length true).all id = true := by simp
        rw [e]
        exact q _ r
/-! ### are_letters -/
theorem sort_lets {sg : List Nat} (up : sg.Pairwise (· < ·)) {L : List (List Nat)} (hp : L.Perm (lets sg)) (hs : L.Pairwise (· < ·)) : L = sg.map fun c => [c] := by
  have h2 : (sg.map fun c => [c]).Pairwise (· < ·) := by
    rw [List.pairwise_map]
    refine up.imp fun h => ?_
    exact List.cons_lt_cons_iff.mpr (.inl h)
  have hn1 : L.Nodup := hs.imp fun h e => by subst e; exact absurd h (List.lt_irrefl _)
  have hn2 : (sg.map fun c => [c]).Nodup := h2.imp fun h e => by subst e; exact absurd h (List.lt_irrefl _)
  have hp2 : L.Perm (sg.map fun c => [c]) := by
    refine (List.perm_ext_iff_of_nodup hn1 hn2).mpr fun x => ?_
    rw [hp.mem_iff, lets_mem, List.mem_map]
    exact ⟨fun ⟨c, h1, h2⟩ => ⟨c, h1, h2.symm⟩, fun ⟨c, h1, h2⟩ => ⟨c, h1, h2.symm⟩⟩
  exact hp2.eq_of_pairwise (fun a b _ _ h1 h2 => absurd (List.lt_trans h1 h2) (List.lt_irrefl _)) hs h2
def spAreLetters : Sp := fun vs H Q _ => ∃ sg, vs = [tx sg] ∧ Lets sg ∧ ∀ H', Same H H' → Q (.bl true) H'
theorem ok_are_letters (T : All K mg) : FnOk P w K mg base CX0 2 T.f_are_letters T.d_are_letters ["value"] spAreLetters := by
  refine T.are_letters.F.ok sc_are_letters (fun vs H Q E h => ?_) (fun cdv A outer s H vs Q E hr h => ?_)
  · obtain ⟨l, rfl, _⟩ := h
    rfl
  · obtain ⟨sg, rfl, hl, q⟩ := h
    obtain ⟨ts, hMOST_LETTERS⟩ := T.c_MOST_LETTERS
    have hz : sg.length ≤ sizeLine := sz (by have := hl.few; omega)
    refine ⟨_, pss_cons (ps_if (PW.pt (pw_or (pt_not (pt_val (pe_call (ok_is_text T) (hr.mono (by decide)) (by rfl) T.is_text.g T.is_text.F.kp T.is_text.b .nil pass0 (pa_cons (pv 0) pa_nil)))) (pw_or1 (pt_not (pt_chain op_le op_le pe_int (pe_callB call_lenT (by rfl) T.b_len PySem.boot_len (pa_cons (pv 0) pa_nil)) (pe_glob (v := .int 3) rfl hMOST_LETTERS ⟨_, rfl⟩)))))) (pss_one ps_never) pss_nil)
      (pss_one (ps_ret (pe_cmpR (op_eqD (u64 hr)) (pe_callTy (call_listT rfl) (by rfl) T.b_list PyProof.Rows.boot_list (pa_cons (pv 0) pa_nil)) (pe_callB (cr_sortSetT rfl) (by rfl) T.b_sorted PyProof.Rows.boot_sorted (pa_cons (pe_callTy (cr_setT rfl) (by rfl) T.b_set (show bootBuiltins "set" = some (.type "set") by decide +kernel) (pa_cons (pv 0) pa_nil)) pa_nil)) (by rfl)))), ?_⟩
    refine ⟨_, rfl, sg, rfl, hl.az, by have := hl.few; omega, fun H1 s1 => ?_⟩
    refine ⟨true, rfl, iteF ?_⟩
    have e1 : decide ((1 : Int) ≤ (sg.length : Int)) = true := decide_eq_true (by have := hl.ne; omega)
    have e2 : decide ((sg.length : Int) ≤ 3) = true := decide_eq_true (by have := hl.few; omega)
    refine ⟨_, rfl, sg, rfl, hz, _, _, rfl, rfl, _, rfl, ?_⟩
    rw [e1]
    refine iteT ⟨_, _, rfl, rfl, true, congrArg V.bl e2, iteF ?_⟩
    refine ⟨_, rfl, sg, rfl, hz, fun p np => ?_⟩
    refine ⟨_, rfl, sg, rfl, by have := hl.few; omega, fun p2 np2 => ?_⟩
    refine ⟨p2, _, rfl, upd_same, fun L p3 hp hs np3 => ?_⟩
    have eL := sort_lets hl.up hp hs
    subst eL
    have s2 := same_up (o := .lst (sg.map fun c => tx [c])) s1 (s1.free np)
    have n1 : p ≠ p2 := fun e => by subst e; rw [upd_same] at np2; cases np2
    have n2 : p ≠ p3 := fun e => by subst e; rw [upd_ne n1, upd_same] at np3; cases np3
    have w : ∀ d ∈ dTx (sg.map fun c => [c]), Wt d 1 0 := fun d hd => by
      unfold dTx at hd
      rw [List.map_map] at hd
      obtain ⟨c, hc, rfl⟩ := List.mem_map.mp hd
      refine Wt.text (fun x hx => ?_) (by simp)
      rw [List.mem_singleton.mp hx]
      have := hl.az c hc
      omega
    have sh := (Wt.list w (Nat.le_refl _)).shaped (by decide)
    refine ⟨.list (dTx (sg.map fun c => [c])), .list (dTx (sg.map fun c => [c])), .lst (xs := (sg.map fun c => [c]).map tx) (.inl (.inl ?_)) (dp_txs _), .lst (xs := (sg.map fun c => [c]).map tx) (.inl (.inl upd_same)) (dp_txs _), sh, sh, ?_⟩
    · rw [upd_ne n2, upd_ne n1, upd_same, List.map_map]
      rfl
    · have e : PyData.eqv (.list (dTx (sg.map fun c => [c]))) (.list (dTx (sg.map fun c => [c]))) = true := by
        show PyData.eqvAll _ _ = true
        unfold dTx
        rw [eqv_map (α := List Nat) _ (fun a b => ?_) _ _]
        · exact decide_eq_true rfl
        · show (tS a == tS b) = _
          by_cases h : a = b
          · subst h; simp
          · rw [decide_eq_false h]; exact beq_eq_false_iff_ne.mpr fun z => h (tS_inj z)
      rw [e]
      refine q _ (same_up (same_up s2 ?_) ?_)
      · exact s2.free np2
      · exact (same_up s2 (s2.free np2)).free np3
/-! ### text_key -/
def keyLen : KF := fun l => ((l.length : Int), l)
/-! ### want_few -/
def spWantFew : Sp := fun vs H Q _ => ∃ (x : V) (m n : Int), vs = [x, .int m, .int n] ∧ m ≤ n ∧ Q .non H
theorem ok_want_few (T : All K mg) : FnOk P w K mg base CX0 1 T.f_want_few T.d_want_few ["what", "many", "limit"] spWantFew := by
  refine T.want_few.F.ok sc_want_few (fun vs H Q E h => ?_) (fun cdv A outer s H vs Q E hr h => ?_)
  · obtain ⟨x, m, n, rfl, _⟩ := h
    rfl
  · obtain ⟨x, m, n, rfl, hmn, q⟩ := h
    refine ⟨_, pss_one (ps_if (pt_cmpR op_gt (pv 1) (pv 2) (nomark _)) (pss_one ps_never) pss_nil), ?_⟩
    refine ⟨_, rfl, _, rfl, m, n, rfl, rfl, _, rfl, ite2 (fun e => ?_) (fun e => q)⟩
    have := of_decide_eq_true e
    show False
    omega
/-! ### is_text_over -/
def spTextOver (K : PySem.W.Frag) : Sp := fun vs H Q _ => ∃ sg v, vs = [tx sg, v] ∧ ((∃ t, v = tx t ∧ t.length ≤ 1000 ∧ ∀ H', Same H H' → Q (.bl (t.all fun c => decide (c ∈ sg))) H') ∨ (∃ ty, TyX K H v (.type ty) ∧ kitB ty "str" = some false ∧ Q (.bl false) H))
theorem ok_is_text_over (T : All K mg) : FnOk P w K mg base CX0 1 T.f_is_text_over T.d_is_text_over ["letters", "value"] (spTextOver K) := by
  refine T.is_text_over.F.ok sc_is_text_over (fun vs H Q E h => ?_) (fun cdv A outer s H vs Q E hr h => ?_)
  · obtain ⟨l, v, rfl, _⟩ := h
    rfl
  · obtain ⟨sg, v, rfl, h⟩ := h
    refine ⟨_, pss_one (ps_ret (pe_and (pe_callB call_isi (by rfl) T.b_isinstance boot_isinstance (pa_cons (pv 1) (pa_cons (pe_bltn (v := .ty "str") (by rfl) T.b_str (by decide +kernel) rfl) pa_nil)))
        (pe_one (pe_callB (cr_all rfl) (by rfl) T.b_all PyProof.Rows.boot_all (pa_cons (pe_lc (own := [("sign", 2)]) (g := gName 2) (tt := tYes) rfl sc_is_text_over.nd (pi_str (pv 1))
          (blkOk_by (own := [("sign", 2)]) (N := ["letters", "value", "sign"]) (sc := defScope s_is_text_over) (by decide +kernel))
          (fun _ _ _ _ _ => pg_name (i := 2) sc_is_text_over.nd rfl (by first | exact Or.inl rfl | exact Or.inr rfl)) (fun _ _ _ _ _ => pts_nil)
          (fun _ _ _ _ _ => (pe_cmpR op_in_sign (pv 2) (pv 0) (by rfl)))) pa_nil))))), ?_⟩
    rcases h with ⟨t, rfl, hz, q⟩ | ⟨ty, hty, hk, q⟩
    · refine ⟨tx t, rfl, tx t, .ty "str", .type "str", .type "str", true, rfl, .ty _, .base (.str _), kit_ty (by decide +kernel), true, rfl, iteT ?_⟩
      refine ⟨tx t, rfl, tS t, rfl, fun D nD => ?_⟩
      refine lc_gen walk_tx (Same H) (fun i acc => acc = ((t.take i).map fun c => decide (c ∈ sg)).map V.bl) (sz (by omega)) (fun i acc e => by rw [e]; simp; omega) rfl (same_upd nD) (fun _ _ h => same_up h nD) (fun _ _ => trivial) (fun i x H2 H3 acc C N hi r hD ha y c n => ?_) (fun H2 xs r hD ha => ?_)
      · obtain ⟨rfl, ch, hc, rfl⟩ := y
        refine ⟨rfl, yes_te ?_⟩
        refine ⟨_, rfl, _, rfl, ch, tS sg, rfl, rfl, ?_⟩
        refine c _ _ r hD ?_
        rw [ha, List.take_add_one, hc]
        simp [tS]
      · subst ha
        rw [List.take_length] at hD
        refine ⟨D, t.map fun c => decide (c ∈ sg), rfl, .inl (.inl hD), ?_⟩
        have e : (t.map fun c => decide (c ∈ sg)).all id = t.all fun c => decide (c ∈ sg) := by rw [List.all_map]; rfl
        rw [e]
        exact q _ r
    · refine ⟨v, rfl, v, .ty "str", .type ty, .type "str", false, rfl, .ty _, hty, kit_ty hk, false, rfl, iteF q⟩
/-! ### is_row -/
def spIsRow (K : PySem.W.Frag) : Sp := fun vs H Q _ => ∃ (v : V) (r : List Nat) (m : Nat), vs = [v, .int (r.length : Int), .int (m : Int)] ∧ Sq K H v (nV r) ∧ (∀ g ∈ r, g < m) ∧ r.length ≤ 1000 ∧ ∀ H', Same H H' → Q (.bl true) H'
theorem ok_is_row (T : All K mg) : FnOk P w K mg base CX0 2 T.f_is_row T.d_is_row ["value", "size", "many"] (spIsRow K) := by
  refine T.is_row.F.ok sc_is_row (fun vs H Q E h => ?_) (fun cdv A outer s H vs Q E hr h => ?_)
  · obtain ⟨v, r, m, rfl, _⟩ := h
    rfl
  · obtain ⟨v, r, m, rfl, hS, hm, hz, q⟩ := h
    refine ⟨_, pss_cons (ps_if (PW.pt (pw_or (pt_not (pt_val (pe_call (ok_is_list T) (hr.mono (by decide)) (by rfl) T.is_list.g T.is_list.F.kp T.is_list.b .nil pass0 (pa_cons (pv 0) pa_nil)))) (pw_or1 (pt_cmpR op_ne (pe_callB call_len_seq (by rfl) T.b_len PySem.boot_len (pa_cons (pv 0) pa_nil)) (pv 1) (nomark _))))) (pss_one ps_never) pss_nil)
      (pss_one (ps_ret (pe_callB (cr_all rfl) (by rfl) T.b_all PyProof.Rows.boot_all (pa_cons (pe_lc (own := [("goal", 3)]) (g := gName 3) (tt := tYes) rfl sc_is_row.nd (pi_sq (pv 0))
          (blkOk_by (own := [("goal", 3)]) (N := ["value", "size", "many", "goal"]) (sc := defScope s_is_row) (by decide +kernel))
          (fun _ _ _ _ _ => pg_name (i := 3) sc_is_row.nd rfl (by first | exact Or.inl rfl | exact Or.inr rfl)) (fun _ _ _ _ _ => pts_nil)
          (fun _ _ _ _ _ => (pe_and (pe_call (ok_is_integer T) (hr.mono (by decide)) (by rfl) T.is_integer.g T.is_integer.F.kp T.is_integer.b .nil pass0 (pa_cons (pv 3) pa_nil))
        (pe_one (pe_chain op_le op_lt pe_int (pv 3) (pv 2)))))) pa_nil)))), ?_⟩
    refine ⟨_, rfl, v, _, rfl, hS, fun H1 s1 => ?_⟩
    have hS1 := hS.same s1
    obtain ⟨a, rfl, hS1'⟩ := id hS1
    refine ⟨true, rfl, iteF ?_⟩
    refine ⟨_, rfl, a, _, rfl, hS1', _, rfl, rfl, _, rfl, ?_⟩
    rw [nV_len]
    refine ite_f (by simp) ?_
    refine ⟨_, rfl, _, H1, hS1, Same.refl _, fun J G wk hG D nD => ?_⟩
    refine lc_gen wk (Same H1) (fun i acc => acc = List.replicate i (.bl true)) (by rw [nV_len]; exact sz (by omega)) (fun i acc e => by rw [e]; simp) rfl (same_upd nD) (fun _ _ h => same_up h nD) (fun _ h => hG _ h) (fun i x H2 H3 acc C N hi rs hD ha y c n => ?_) (fun H2 xs rs hD ha => ?_)
    · obtain ⟨rfl, y⟩ := y
      obtain ⟨g, hg, rfl⟩ := nV_inv y
      have hgm := hm g (List.mem_of_getElem? hg)
      refine ⟨rfl, yes_te ?_⟩
      refine ⟨_, rfl, _, rfl, true, rfl, iteT ?_⟩
      refine ⟨_, rfl, _, _, rfl, rfl, _, rfl, ite_t (decide_eq_true (by omega)) ?_⟩
      refine ⟨_, rfl, _, _, rfl, rfl, ?_⟩
      show C (V.bl (decide ((g : Int) < (m : Int)))) _
      rw [decide_eq_true (by omega)]
      exact c _ _ rs hD (by rw [ha, List.replicate_succ'])
    · refine ⟨D, List.replicate r.length true, rfl, .inl (.inl ?_), ?_⟩
      · rw [hD, ha, nV_len]
        simp
      · have e : (List.replicate r.length true).all id = true := by simp
        rw [e]
        exact q _ (s1.trans rs)
/-! ### want_machine -/
def spWantMachine (K : PySem.W.Frag) : Sp := fun vs H Q _ => ∃ (sg : List Nat) (a b : V) (R : List (List Nat)) (k : List Bool), vs = [tx sg, a, b] ∧ Lets sg ∧ Rw K H a R ∧ Sq K H b (k.map V.bl) ∧ M14.Sht sg.length R k ∧ ∀ H', Same H H' → Q .non H'
theorem ok_want_machine (T : All K mg) : FnOk P w K mg base CX0 3 T.f_want_machine T.d_want_machine ["letters", "rows", "kinds"] (spWantMachine K) := by
  refine T.want_machine.F.ok sc_want_machine (fun vs H Q E h => ?_) (fun cdv A outer s H vs Q E hr h => ?_)
  · obtain ⟨sg, a, b, R, k, rfl, _⟩ := h
    rfl
  · obtain ⟨sg, a, b, R, k, rfl, hl, hR, hk, hG, q⟩ := h
    have zsg : sg.length ≤ sizeLine := sz (by have := hl.few; omega)
    refine ⟨_, pss_cons (ps_if (pt_not (pt_val (pe_call (ok_are_letters T) (hr.mono (by decide)) (by rfl) T.are_letters.g T.are_letters.F.kp T.are_letters.b .nil pass0 (pa_cons (pv 0) pa_nil)))) (pss_one ps_never) pss_nil)
      (pss_cons (ps_if (PW.pt (pw_or (pt_not (pt_val (pe_call (ok_is_list T) (hr.mono (by decide)) (by rfl) T.is_list.g T.is_list.F.kp T.is_list.b .nil pass0 (pa_cons (pv 1) pa_nil)))) (pw_or1 (pt_cmpR op_eq (pe_callB call_len_seq (by rfl) T.b_len PySem.boot_len (pa_cons (pv 1) pa_nil)) pe_int (nomark _))))) (pss_one ps_never) pss_nil)
      (pss_cons (ps_for PassesOwn.never rfl (pi_enumS rfl T.b_enumerate (pa_cons (pv 1) pa_nil)) (pg_tup rfl (pgs_cons (pg_name (i := 3) sc_want_machine.nd rfl (by first | exact Or.inl rfl | exact Or.inr rfl)) (pgs_cons (pg_name (i := 4) sc_want_machine.nd rfl (by first | exact Or.inl rfl | exact Or.inr rfl)) pgs_nil)))
        (pss_one (ps_if (pt_not (pt_val (pe_call (ok_is_row T) (hr.mono (by decide)) (by rfl) T.is_row.g T.is_row.F.kp T.is_row.b .nil pass0 (pa_cons (pv 4) (pa_cons (pe_callB call_lenT (by rfl) T.b_len PySem.boot_len (pa_cons (pv 0) pa_nil)) (pa_cons (pe_callB call_len_seq (by rfl) T.b_len PySem.boot_len (pa_cons (pv 1) pa_nil)) pa_nil)))))) (pss_one ps_never) pss_nil)))
      (pss_cons (ps_if (PW.pt (pw_or (pt_not (pt_val (pe_call (ok_is_list T) (hr.mono (by decide)) (by rfl) T.is_list.g T.is_list.F.kp T.is_list.b .nil pass0 (pa_cons (pv 2) pa_nil)))) (pw_or1 (pt_cmpR op_ne (pe_callB call_len_seq (by rfl) T.b_len PySem.boot_len (pa_cons (pv 2) pa_nil)) (pe_callB call_len_seq (by rfl) T.b_len PySem.boot_len (pa_cons (pv 1) pa_nil)) (nomark _))))) (pss_one ps_never) pss_nil)
      (pss_cons (ps_for PassesOwn.never rfl (pi_enumS rfl T.b_enumerate (pa_cons (pv 2) pa_nil)) (pg_tup rfl (pgs_cons (pg_name (i := 3) sc_want_machine.nd rfl (by first | exact Or.inl rfl | exact Or.inr rfl)) (pgs_cons (pg_name (i := 5) sc_want_machine.nd rfl (by first | exact Or.inl rfl | exact Or.inr rfl)) pgs_nil)))
        (pss_one (ps_if (pt_not (pt_val (pe_callB call_isi (by rfl) T.b_isinstance boot_isinstance (pa_cons (pv 5) (pa_cons (pe_bltn (v := .ty "bool") (by rfl) T.b_bool (by decide +kernel) rfl) pa_nil))))) (pss_one ps_never) pss_nil)))
      (pss_one (ps_expr (pe_call (ok_want_few T) (hr.mono (by decide)) (by rfl) T.want_few.g T.want_few.F.kp T.want_few.b .nil pass0 (pa_cons pe_str (pa_cons (pe_callB call_len_seq (by rfl) T.b_len PySem.boot_len (pa_cons (pv 1) pa_nil)) (pa_cons (ClX.pe_cval (pe_glob (v := .ref T.C_Machine) rfl T.g_Machine rfl)) pa_nil)))))))))), ?_⟩
    refine ⟨_, rfl, sg, rfl, hl, fun H1 s1 => ⟨true, rfl, iteF ?_⟩⟩
    obtain ⟨xs, hS, hlen, hrow⟩ := id hR
    refine ⟨_, rfl, a, xs, rfl, hS.same s1, fun H2 s2 => ⟨true, rfl, iteF ?_⟩⟩
    have s12 := s1.trans s2
    obtain ⟨aa, rfl, hSS⟩ := hS.same s12
    refine ⟨_, rfl, aa, xs, rfl, hSS, rfl, _, rfl, ite_f (decide_eq_false fun z => ?_) ?_⟩
    · have := hG.ne
      have := V.int.inj z
      omega
    obtain ⟨y, ey, hy⟩ := sq_src hS
    refine ⟨_, rfl, y, xs, congrArg (fun z => [z]) ey, hy _ s12, for_it walk_enumS (fun i σ H' => ∃ p r, σ = [some (tx sg), some (.ref aa), some b, p, r, none] ∧ Same H H') ⟨none, none, rfl, s12⟩ (fun i σ H' _ p => by obtain ⟨_, _, _, sm⟩ := p; exact hy _ sm) (fun i x σ H3 H4 hi p y => ?_) (fun σ H3 p => ?_)⟩
    · obtain ⟨p0, r0, rfl, sm⟩ := p
      obtain ⟨Tp, x1, x2, rfl, nT, rfl, e1, e2⟩ := y
      cases e1
      obtain ⟨r, hr1⟩ : ∃ r, R[i]? = some r := ⟨R[i]'(by omega), List.getElem?_eq_getElem (by omega)⟩
      have hrm : r ∈ R := List.mem_of_getElem? hr1
      have hrl := hG.len r hrm
      have sm2 := same_up (o := .tup [.int (i : Nat), x2]) sm (sm.free nT)
      refine ⟨Tp, _, rfl, .inl (.inl upd_same), rfl, _, _, rfl, _, _, rfl, rfl, ?_⟩
      refine ⟨_, rfl, _, rfl, sg, rfl, zsg, _, rfl, aa, xs, rfl, (by obtain ⟨z, e, h⟩ := hS.same sm2; cases e; exact h), ?_⟩
      refine ⟨x2, r, R.length, by rw [hrl, hlen]; rfl, (hrow i x2 r e2 hr1).same sm2, fun g hg => ?_, by have := hl.few; omega, fun H5 s5 => ⟨true, rfl, iteF ⟨_, _, rfl, sm2.trans s5⟩⟩⟩
      have hi2 : i < R.length := by omega
      exact hG.val i hi2 g (by rw [M14.row_get hr1]; exact hg)
    · obtain ⟨p0, r0, rfl, s3⟩ := p
      have ek : (k.map V.bl).length = R.length := by rw [List.length_map]; exact hG.kin
      refine ⟨_, rfl, b, _, rfl, hk.same s3, fun H4 s4 => ⟨true, rfl, iteF ?_⟩⟩
      have s34 := s3.trans s4
      obtain ⟨bb, rfl, hkk⟩ := hk.same s34
      refine ⟨_, rfl, bb, _, rfl, hkk, _, rfl, aa, xs, rfl, (by obtain ⟨z, e, h⟩ := hS.same s34; cases e; exact h), rfl, _, rfl, ite_f ?_ ?_⟩
      · rw [ek, hlen]; simp
      obtain ⟨y2, ey2, hy2⟩ := sq_src hk
      refine ⟨_, rfl, y2, _, congrArg (fun z => [z]) ey2, hy2 _ s34, for_it walk_enumS (fun i σ H' => ∃ p r kk, σ = [some (tx sg), some (.ref aa), some (.ref bb), p, r, kk] ∧ Same H H') ⟨_, _, _, rfl, s34⟩ (fun i σ H' _ p => by obtain ⟨_, _, _, _, sm⟩ := p; exact hy2 _ sm) (fun i x σ H5 H6 hi p y => ?_) (fun σ H5 p => ?_)⟩
      · obtain ⟨p0, r0, k0, rfl, sm⟩ := p
        obtain ⟨Tp, x1, x2, rfl, nT, rfl, e1, e2⟩ := y
        cases e1
        have e2 : (k.map V.bl)[i]? = some x2 := e2
        rw [List.getElem?_map] at e2
        obtain ⟨kb, hkb, rfl⟩ := Option.map_eq_some_iff.mp e2
        have sm2 := same_up (o := .tup [.int (i : Nat), .bl kb]) sm (sm.free nT)
        refine ⟨Tp, _, rfl, .inl (.inl upd_same), rfl, _, _, rfl, _, _, rfl, rfl, ?_⟩
        refine ⟨_, rfl, _, .ty "bool", .type "bool", .type "bool", true, rfl, .ty _, .base (.bl _), kit_ty (by decide +kernel), true, rfl, iteF ⟨_, _, _, rfl, sm2⟩⟩
      · obtain ⟨p0, r0, k0, rfl, s5⟩ := p
        obtain ⟨tk, hcv⟩ := T.cv_Machine_MOST_PLACES
        refine ⟨_, rfl, aa, xs, rfl, (by obtain ⟨z, e, h⟩ := hS.same s5; cases e; exact h), T.C_Machine, .type "type", _, _, rfl, T.cr_Machine, hcv, ?_⟩
        refine ⟨_, _, _, rfl, ?_, q _ s5⟩
        have := hG.few
        omega
end
end Lw

namespace Lw
open PySem PySem.Spec PyProof.Rows L2 L3
/-- a while that counts -/
theorem while_n {c : TT} {tb : TS} {D : Ends} {σ : L2.St} {H : Hp} (Pv : Nat → L2.St → Hp → Prop) (N : Nat) (h0 : Pv 0 σ H)
    (hs : ∀ n σ H, Pv n σ H → ∀ Kc : Bool → Hp → Prop, (∀ H1, n < N → tb { D with nx := Pv (n + 1), ct := Pv (n + 1), bk := D.nx } σ H1 → Kc true H1) → (∀ H1, D.nx σ H1 → Kc false H1) → c σ H Kc) : tWhile c tb D σ H := by
  refine ⟨fun m σ H => ∃ n, m = N - n ∧ Pv n σ H, ⟨_, 0, rfl, h0⟩, ?_⟩
  rintro m σ H ⟨n, rfl, p⟩
  refine hs n σ H p _ (fun H1 hn h => ?_) (fun H1 h => ?_)
  · exact iteT ⟨Pv (n + 1), fun σ' H' p' => ⟨N - (n + 1), by omega, n + 1, rfl, p'⟩, h⟩
  · exact iteF h
theorem Rw.row {K : PySem.W.Frag} {H : Hp} {v : V} {R : List (List Nat)} (h : Rw K H v R) {p : Nat} (hp : p < R.length) : ∃ xs x, Sq K H v xs ∧ xs[p]? = some x ∧ Sq K H x (nV (M14.row R p)) := by
  obtain ⟨xs, hS, hl, hr⟩ := h
  have hx : p < xs.length := by omega
  exact ⟨xs, xs[p], hS, List.getElem?_eq_getElem hx, hr p _ _ (List.getElem?_eq_getElem hx) (M14.row_at hp)⟩
section
variable {P : Program} {w : World} {K : PySem.W.Frag} {mg : Str → Option Value} {base : Heap}
/-! ### met_from -/
def spMet (K : PySem.W.Frag) : Sp := fun vs H Q _ => ∃ (a : V) (R : List (List Nat)) (st : Nat), vs = [a, .int (st : Int)] ∧ Rw K H a R ∧ M14.Val R ∧ st < R.length ∧ R.length ≤ 40 ∧ ∀ H' p, Same H H' → H p = none → H' p = some (.lst (nV (M14.met R st))) → Q (.ref p) H'
theorem ok_met_from (T : All K mg) : FnOk P w K mg base CX0 1 T.f_met_from T.d_met_from ["rows", "start"] (spMet K) := by
  refine T.met_from.F.ok sc_met_from (fun vs H Q E h => ?_) (fun cdv A outer s H vs Q E hr h => ?_)
  · obtain ⟨a, R, st, rfl, _⟩ := h
    rfl
  · obtain ⟨a, R, st, rfl, hR, hv, hst, hfew, q⟩ := h
    refine ⟨_, pss_cons (ps_set (i := 2) sc_met_from.nd rfl (by first | exact Or.inl rfl | exact Or.inr rfl) (pe_lst pa_nil))
      (pss_cons (ps_expr (pe_bm PySem.F.plainAttrs_list PySem.F.slot_list_append PySem.F.type_list_append mt_append (pv 2) (pa_cons (pv 1) pa_nil)))
      (pss_cons (ps_set (i := 3) sc_met_from.nd rfl (by first | exact Or.inl rfl | exact Or.inr rfl) pe_int)
      (pss_cons (ps_while PassesOwn.never (pt_cmpR op_lt (pv 3) (pe_callB call_len_seq (by rfl) T.b_len PySem.boot_len (pa_cons (pv 2) pa_nil)) (nomark _))
        (pss_cons (ps_for PassesOwn.never rfl (pi_sq (pe_ix ix_sq (pv 0) (pe_ix ix_list (pv 2) (pv 3) (fun _ _ => rfl)) (fun _ _ => rfl))) (pg_name (i := 4) sc_met_from.nd rfl (by first | exact Or.inl rfl | exact Or.inr rfl))
        (pss_one (ps_if (pt_cmpR op_notInN (pv 4) (pv 2) (by rfl)) (pss_one (ps_expr (pe_bm PySem.F.plainAttrs_list PySem.F.slot_list_append PySem.F.type_list_append mt_append (pv 2) (pa_cons (pv 4) pa_nil)))) pss_nil)))
      (pss_one (ps_set (i := 3) sc_met_from.nd rfl (by first | exact Or.inl rfl | exact Or.inr rfl) (pe_op op_add (pv 3) pe_int)))))
      (pss_one (ps_ret (pv 2)))))), ?_⟩
    refine ⟨by show 0 ≤ sizeLine; decide, fun D nD => ?_⟩
    refine ⟨_, rfl, .inl ⟨rfl, _, .inl (.inl upd_same)⟩, _, rfl, D, _, _, rfl, rfl, upd_same, by show 0 < sizeLine; decide, ?_⟩
    rw [upd_upd]
    refine while_n (fun n σ H' => ∃ g, σ = [some a, some (.int (st : Int)), some (.ref D), some (.int (n : Int)), g] ∧ H' D = some (.lst (nV (M14.metI R st n))) ∧ Same H H') 40 ⟨none, rfl, upd_same, same_upd nD⟩ (fun n σ H1 p Kc kt kf => ?_)
    obtain ⟨g0, rfl, hD, sm⟩ := p
    have hlen := M14.metI_len hv hst n
    refine ⟨_, rfl, _, rfl, D, _, rfl, .inl (.inl (.inl hD)), _, _, rfl, rfl, _, rfl, ?_⟩
    rw [nV_len]
    by_cases hlt : n < (M14.metI R st n).length
    · rw [decide_eq_true (by omega : (n : Int) < ((M14.metI R st n).length : Int))]
      refine kt _ (by omega) ?_
      have hgt : (M14.metI R st n)[n]? = some (M14.metI R st n)[n] := List.getElem?_eq_getElem hlt
      generalize (M14.metI R st n)[n] = p at hgt
      have hp : p < R.length := M14.metI_lt hv hst n p (List.mem_of_getElem? hgt)
      obtain ⟨xs, x, hS, hx, hSx⟩ := hR.row hp
      refine ⟨_, rfl, _, rfl, _, rfl, D, _, _, _, rfl, rfl, .inl (.inl hD), atI_nat (nV_get hgt), xs, _, x, hS.same sm, rfl, atI_nat hx, _, H, hSx, sm, fun J G wk hG => ?_⟩
      refine for_it wk (fun i σ H' => ∃ g, σ = [some a, some (.int (st : Int)), some (.ref D), some (.int (n : Int)), g] ∧ H' D = some (.lst (nV (((M14.row R p).take i).foldl M14.addG (M14.metI R st n)))) ∧ Same H H') ⟨_, rfl, hD, sm⟩ (fun i σ H' _ p => by obtain ⟨_, _, _, sm⟩ := p; exact hG _ sm) (fun i x σ H2 H3 hi p' y => ?_) (fun σ H2 p' => ?_)
      · obtain ⟨g1, rfl, hD2, sm2⟩ := p'
        obtain ⟨rfl, y⟩ := y
        obtain ⟨g, hg, rfl⟩ := nV_inv y
        have hstep : ((M14.row R p).take (i + 1)).foldl M14.addG (M14.metI R st n) = M14.addG (((M14.row R p).take i).foldl M14.addG (M14.metI R st n)) g := by
          rw [List.take_add_one, hg, List.foldl_append]; rfl
        refine ⟨_, rfl, _, rfl, _, g, rfl, sq_list (.inl (.inl hD2)), _, rfl, ?_⟩
        by_cases hm : g ∈ ((M14.row R p).take i).foldl M14.addG (M14.metI R st n)
        · refine ite_f (by simp [hm]) ?_
          refine ⟨_, rfl, ?_, sm2⟩
          rw [hstep, hD2, M14.addG, if_pos hm]
        · refine ite_t (by simp [hm]) ?_
          have hlen2 : (((M14.row R p).take i).foldl M14.addG (M14.metI R st n)).length ≤ R.length := M14.nodup_len _ _ (M14.fold_nodup (M14.metI_nodup R st n)) fun z hz => by
            rcases M14.fold_mem.mp hz with hz | hz
            · exact M14.metI_lt hv hst n z hz
            · exact hv p hp z (List.mem_of_mem_take hz)
          refine ⟨_, rfl, .inl ⟨rfl, _, .inl (.inl hD2)⟩, _, rfl, D, _, _, rfl, rfl, hD2, by rw [nV_len]; exact Nat.lt_of_lt_of_le (Nat.lt_succ_of_le hlen2) (sz (by omega)), ?_⟩
          refine ⟨_, rfl, ?_, same_up sm2 nD⟩
          rw [upd_same, hstep, M14.addG, if_neg hm]
          unfold nV
          rw [List.map_append]
          rfl
      · obtain ⟨g1, rfl, hD2, sm2⟩ := p'
        rw [nV_len, List.take_length, ← M14.metI_succ hgt] at hD2
        exact ⟨_, rfl, _, _, rfl, rfl, _, by simp; rfl, hD2, sm2⟩
    · rw [decide_eq_false (by omega : ¬ (n : Int) < ((M14.metI R st n).length : Int))]
      refine kf _ ?_
      refine ⟨_, rfl, q _ D sm nD ?_⟩
      rw [hD, M14.met_of hv hst (by omega)]
end
end Lw

namespace Lw
open PySem PySem.Spec PyProof.Rows L3
open L2 hiding del del_same del_ne
def dTR (R : List (List Nat)) : PyData := .tuple (R.map fun r => .tuple (dN r))
def dLR (R : List (List Nat)) : PyData := .list (R.map fun r => .list (dN r))
theorem rw_dTR {K : PySem.W.Frag} {H : Hp} {v : V} {R : List (List Nat)} (h : Dp K H v (dTR R)) : Rw K H v R := by
  obtain ⟨a, xs, rfl, hS, hA⟩ := dp_tuple h
  refine ⟨xs, sq_tuple hS, by rw [dpAll_len hA, List.length_map], fun i x r h1 h2 => ?_⟩
  obtain ⟨d, h3, h4⟩ := dpAll_back hA h1
  rw [List.getElem?_map, h2] at h3
  cases h3
  obtain ⟨b, ys, rfl, hS2, hA2⟩ := dp_tuple h4
  rw [dpAll_nats hA2] at hS2
  exact sq_tuple hS2
theorem rw_dLR {K : PySem.W.Frag} {H : Hp} {v : V} {R : List (List Nat)} (h : Dp K H v (dLR R)) : Rw K H v R := by
  obtain ⟨a, xs, rfl, hS, hA⟩ := dp_list h
  refine ⟨xs, sq_list hS, by rw [dpAll_len hA, List.length_map], fun i x r h1 h2 => ?_⟩
  obtain ⟨d, h3, h4⟩ := dpAll_back hA h1
  rw [List.getElem?_map, h2] at h3
  cases h3
  obtain ⟨b, ys, rfl, hS2, hA2⟩ := dp_list h4
  rw [dpAll_nats hA2] at hS2
  exact sq_list hS2
theorem putF_len (f : Str) (v : V) : ∀ fs : List (Str × V), (putF f v fs).length ≤ fs.length + 1
  | [] => Nat.le_refl _
  | (g, x) :: fs => by
    unfold putF
    split
    · exact Nat.le_succ _
    · rw [List.length_cons, List.length_cons]
      exact Nat.succ_le_succ (putF_len f v fs)
theorem putF_lt {f : Str} {v : V} {fs : List (Str × V)} {n : Nat} (h : fs.length ≤ n) (hn : n + 1 < 1000) : (putF f v fs).length < 1000 := Nat.lt_of_le_of_lt (Nat.le_trans (putF_len f v fs) (Nat.succ_le_succ h)) hn
/-- a machine at a -/
structure Mach (C : Addr) (K : PySem.W.Frag) (H : Hp) (a : Addr) (sg : List Nat) (R : List (List Nat)) (k : List Bool) : Prop where
  at_ : ∃ dx r q, H a = some (.ins C dx [("own_letters", tx sg), ("own_rows", .ref r), ("own_kinds", .ref q)]) ∧ Dp K H (.ref r) (dTR R) ∧ SqT K H q (k.map V.bl)
  lets : Lets sg
  good : M14.Good sg.length R k
theorem Mach.same {C : Addr} {K : PySem.W.Frag} {H H' : Hp} {a : Addr} {sg : List Nat} {R : List (List Nat)} {k : List Bool} (h : Mach C K H a sg R k) (s : Same H H') : Mach C K H' a sg R k := by
  obtain ⟨⟨dx, r, q, h1, h2, h3⟩, h4, h5⟩ := h
  exact ⟨⟨dx, r, q, s _ _ h1, Dp.same s h2, sqT_same h3 s⟩, h4, h5⟩
section
variable {P : Program} {w : World} {K : PySem.W.Frag} {mg : Str → Option Value} {base : Heap}
/-! ### Machine.__init__ -/
def spInit (K : PySem.W.Frag) (C : Addr) : Sp := fun vs H Q _ => ∃ (x dx : Addr) (sg : List Nat) (a b : V) (R : List (List Nat)) (k : List Bool), vs = [.ref x, tx sg, a, b] ∧ H x = some (.ins C dx []) ∧ Lets sg ∧ Rw K H a R ∧ Sq K H b (k.map V.bl) ∧ M14.Good sg.length R k ∧
  ∀ H', (∀ b o, H b = some o → b ≠ x → H' b = some o) → Mach C K H' x sg R k → Q .non H'
theorem ok_Machine_init (T : All K mg) : FnOk P w K mg base CX0 4 T.f_Machine_init T.d_Machine_init ["self", "letters", "rows", "kinds"] (spInit K T.C_Machine) := by
  refine T.Machine_init.F.ok sc_Machine_init (fun vs H Q E h => ?_) (fun cdv A outer s H vs Q E hr h => ?_)
  · obtain ⟨x, dx, sg, a, b, R, k, rfl, _⟩ := h
    rfl
  · obtain ⟨x, dx, sg, a, b, R, k, rfl, hx, hl, hR, hk, hG, q⟩ := h
    refine ⟨_, pss_cons (ps_expr (pe_call (ok_want_machine T) (hr.mono (by decide)) (by rfl) T.want_machine.g T.want_machine.F.kp T.want_machine.b .nil pass0 (pa_cons (pv 1) (pa_cons (pv 2) (pa_cons (pv 3) pa_nil)))))
      (pss_cons (ps_set (i := 4) sc_Machine_init.nd rfl (by first | exact Or.inl rfl | exact Or.inr rfl) (pe_call (ok_met_from T) (hr.mono (by decide)) (by rfl) T.met_from.g T.met_from.F.kp T.met_from.b .nil pass0 (pa_cons (pv 2) (pa_cons pe_int pa_nil))))
      (pss_cons (ps_for PassesOwn.never rfl (pi_range1 rfl T.b_range (pa_cons (pe_callB call_len_seq (by rfl) T.b_len PySem.boot_len (pa_cons (pv 2) pa_nil)) pa_nil)) (pg_name (i := 5) sc_Machine_init.nd rfl (by first | exact Or.inl rfl | exact Or.inr rfl))
        (pss_one (ps_if (pt_cmpR op_notInN (pv 5) (pv 4) (by rfl)) (pss_one ps_never) pss_nil)))
      (pss_cons (ps_fld (pv 0) (pv 1) rfl)
      (pss_cons (ps_fld (pv 0) (pe_callTy call_tuple_of (by rfl) T.b_tuple (show bootBuiltins "tuple" = some (.type "tuple") by decide +kernel) (pa_cons (pe_lc (own := [("row", 6)]) (g := gName 6) (tt := tYes) rfl sc_Machine_init.nd (pi_sq (pv 2))
          (blkOk_by (own := [("row", 6)]) (N := ["self", "letters", "rows", "kinds", "met", "place", "row"]) (sc := defScope s_Machine_init) (by decide +kernel))
          (fun _ _ _ _ _ => pg_name (i := 6) sc_Machine_init.nd rfl (by first | exact Or.inl rfl | exact Or.inr rfl)) (fun _ _ _ _ _ => pts_nil)
          (fun _ _ _ _ _ => (pe_callTy (call_tuple_ofK (K := K) rfl) (by rfl) T.b_tuple (show bootBuiltins "tuple" = some (.type "tuple") by decide +kernel) (pa_cons (pv 6) pa_nil)))) pa_nil)) rfl)
      (pss_one (ps_fld (pv 0) (pe_callTy call_tuple_of (by rfl) T.b_tuple (show bootBuiltins "tuple" = some (.type "tuple") by decide +kernel) (pa_cons (pv 3) pa_nil)) rfl)))))), ?_⟩
    refine ⟨_, rfl, _, rfl, _, rfl, sg, a, b, R, k, rfl, hl, hR, hk, hG.toSht, fun H1 s1 => ?_⟩
    refine ⟨_, rfl, a, R, 0, rfl, hR.same s1, hG.val, hG.ne, hG.few, fun H2 M s2 nM hM => ?_⟩
    have s12 := s1.trans s2
    obtain ⟨xs, hS, hlen, hrow⟩ := id hR
    obtain ⟨aa, rfl, hSS⟩ := hS.same s12
    refine ⟨_, rfl, aa, xs, rfl, hSS, _, rfl, by omega, by have := hG.few; omega, ?_⟩
    rw [show ((xs.length : Int)).toNat = xs.length by omega]
    refine for_it walk_range (fun i σ H' => ∃ p, σ = [some (.ref x), some (tx sg), some (.ref aa), some b, some (.ref M), p, none] ∧ H' = H2) ⟨none, rfl, rfl⟩ (fun _ _ _ _ _ => trivial) (fun i x' σ H3 H4 hi p y => ?_) (fun σ H3 p => ?_)
    · obtain ⟨p0, rfl, rfl⟩ := p
      obtain ⟨rfl, rfl⟩ := y
      refine ⟨_, rfl, _, rfl, _, i, congrArg V.int (Int.zero_add _), sq_list (.inl (.inl hM)), _, rfl, ite_f ?_ ⟨_, rfl, rfl⟩⟩
      have := hG.all i (by omega)
      simp [this]
    · obtain ⟨p0, rfl, rfl⟩ := p
      have hx2 := s12 _ _ hx
      have hB0 : (del H x) x = none := del_at H x
      have sB2 : Same (del H x) H3 := (del_same H x).trans s12
      have hSB : Sq K (del H x) (.ref aa) xs := sq_del hx hS
      have hrB : ∀ (i : Nat) (y : V) (r : List Nat), xs[i]? = some y → R[i]? = some r → Sq K (del H x) y (nV r) := fun i y r h1 h2 => sq_del hx (hrow i y r h1 h2)
      have hkB : Sq K (del H x) b (k.map V.bl) := sq_del hx hk
      refine ⟨_, rfl, _, rfl, x, T.C_Machine, dx, [], rfl, hx2, T.cl_Machine, T.n_Machine_own_letters, by decide, ?_⟩
      have sB4 : Same (del H x) (upd H3 x (.ins T.C_Machine dx (putF "own_letters" (tx sg) []))) := same_up sB2 hB0
      refine ⟨_, rfl, xs, del H x, hSB, sB4, fun J G wk hGG D nD => ?_⟩
      have hBD : (del H x) D = none := sB4.free nD
      refine lc_data (K := K) wk (R.map fun r => .tuple (dN r)) (by rw [List.length_map, hlen]) (sz (by have := hG.few; omega)) nD (fun H' s' => hGG H' (sB4.trans s')) (fun i y Hh H' acc d C hi sm hD yy hd c => ?_) gName_mono (fun H5 xs' s5 hD5 hA => ?_)
      · obtain ⟨rfl, hy⟩ := yy
        rw [List.getElem?_map] at hd
        obtain ⟨r, hr1, rfl⟩ := Option.map_eq_some_iff.mp hd
        obtain ⟨pa, rfl, hp⟩ := hrB i y r hy hr1
        have sBh := sB4.trans sm
        refine ⟨rfl, ⟨_, rfl, pa, nV r, rfl, ?_⟩⟩
        rcases hp with hp | hp
        · refine .inl ⟨sq_same hp sBh, fun l nl => c _ _ (same_upd nl) (.tup (.inl (.inl ?_)) (dpAll_nV r))⟩
          rw [del_ne (fun e => by rw [e, hD] at nl; cases nl), upd_same]
        · exact .inr ⟨sqT_same hp sBh, c _ _ (Same.refl _) (.tup (sqT_same hp (same_del sBh hBD)) (dpAll_nV r))⟩
      · have hx5 := s5 _ _ (upd_same (H := H3) (a := x))
        have nDx : x ≠ D := fun e => by rw [← e, upd_same] at nD; cases nD
        refine ⟨D, xs', rfl, .inl ⟨.inl (.inl hD5), fun r nr => ?_⟩⟩
        have nrx : x ≠ r := fun e => by rw [← e, hx5] at nr; cases nr
        have hx6 : upd H5 r (.tup xs') x = some (.ins T.C_Machine dx (putF "own_letters" (tx sg) [])) := by rw [upd_ne nrx]; exact hx5
        refine ⟨_, rfl, x, T.C_Machine, dx, _, rfl, hx6, T.cl_Machine, T.n_Machine_own_rows, putF_lt (n := 0) (Nat.zero_le _) (by decide), ?_⟩
        have sB5 := sB4.trans s5
        have hBr : (del H x) r = none := sB5.free nr
        have sB6 : Same (del H x) (upd (upd H5 r (.tup xs')) x (.ins T.C_Machine dx (putF "own_rows" (.ref r) (putF "own_letters" (tx sg) [])))) := same_up (same_up sB5 hBr) hB0
        have hA2 : DpAll K (del (del H5 D) x) xs' (R.map fun r => .tuple (dN r)) := dpAll_del (by rw [del_ne nDx]; exact hx5) hA
        have sA : ∀ H7, Same (upd (del (del H5 D) x) r (.tup xs')) H7 → Dp K H7 (.ref r) (dTR R) := fun H7 s7 => .tup (.inl (.inl (s7 _ _ upd_same))) (DpAll.same ((same_upd (by
          rw [del_ne nrx.symm]; unfold del; split <;> first | rfl | exact nr)).trans s7) hA2)
        have s66 : Same (upd (del (del H5 D) x) r (.tup xs')) (upd (upd H5 r (.tup xs')) x (.ins T.C_Machine dx (putF "own_rows" (.ref r) (putF "own_letters" (tx sg) [])))) := fun bb o e => by
          have nbx : bb ≠ x := fun z => by
            rw [z, upd_ne nrx, del_at] at e; cases e
          rw [upd_ne nbx]
          by_cases hbr : bb = r
          · rw [hbr, upd_same] at e ⊢; exact e
          · rw [upd_ne hbr, del_ne nbx] at e
            rw [upd_ne hbr]
            exact del_same _ _ _ _ e
        have fin : ∀ (H7 : Hp) (qq : Addr), Same (upd (upd H5 r (.tup xs')) x (.ins T.C_Machine dx (putF "own_rows" (.ref r) (putF "own_letters" (tx sg) [])))) H7 → SqT K (del H7 x) qq (k.map V.bl) → Q .non (upd H7 x (.ins T.C_Machine dx (putF "own_kinds" (.ref qq) (putF "own_rows" (.ref r) (putF "own_letters" (tx sg) []))))) := fun H7 qq s7 hq => by
          have hx7 := s7 _ _ (upd_same (a := x))
          have sd : Same (del H7 x) (upd H7 x (.ins T.C_Machine dx (putF "own_kinds" (.ref qq) (putF "own_rows" (.ref r) (putF "own_letters" (tx sg) []))))) := same_up (del_same _ _) (del_at _ _)
          refine q _ (fun bb o e nb => ?_) ⟨⟨dx, r, qq, upd_same, ?_, sqT_same hq sd⟩, hl, hG⟩
          · rw [upd_ne nb]
            exact s7 _ _ (sB6 _ _ (by rw [del_ne nb]; exact e))
          · exact Dp.same sd (dp_del hx7 (sA _ (s66.trans s7)))
        obtain ⟨bb, rfl, hkk⟩ := id hkB
        refine ⟨_, rfl, bb, k.map V.bl, rfl, ?_⟩
        rcases hkk with hkk | hkk
        · refine .inl ⟨sq_same hkk sB6, fun qq nq => ?_⟩
          have nqx : x ≠ qq := fun e => by rw [← e, upd_same] at nq; cases nq
          refine ⟨_, rfl, x, T.C_Machine, dx, _, rfl, by rw [upd_ne nqx, upd_same], T.cl_Machine, T.n_Machine_own_kinds, putF_lt (n := 1) (putF_len _ _ _) (by decide), ?_⟩
          exact fin _ qq (same_upd nq) (.inl (.inl (by rw [del_ne nqx.symm, upd_same])))
        · refine .inr ⟨sqT_same hkk sB6, ?_⟩
          refine ⟨_, rfl, x, T.C_Machine, dx, _, rfl, upd_same, T.cl_Machine, T.n_Machine_own_kinds, putF_lt (n := 1) (putF_len _ _ _) (by decide), ?_⟩
          exact fin _ bb (Same.refl _) (sqT_same hkk (same_del sB6 hB0))
end
end Lw

namespace Lw
open PySem PySem.Spec PyProof.Rows L3
open L2 hiding del del_same del_ne
theorem Same.ne {H H' : Hp} {a b : Addr} {o : HO} (h : H a = some o) (hb : H b = none) : a ≠ b := ne_of_none h hb
theorem nV_snoc (l : List Nat) (n : Nat) : nV (l ++ [n]) = nV l ++ [.int (n : Int)] := by unfold nV; rw [List.map_append]; rfl
theorem kAt_get {k : List Bool} {p : Nat} (h : p < k.length) : (k.map V.bl)[p]? = some (.bl (M14.kAt k p)) := by
  rw [List.getElem?_map, List.getElem?_eq_getElem h]
  unfold M14.kAt
  rw [List.getD_eq_getElem?_getD, List.getElem?_eq_getElem h]
  rfl
section
variable {P : Program} {w : World} {K : PySem.W.Frag} {mg : Str → Option Value} {base : Heap}
/-! ### machine_from -/
def spFrom (K : PySem.W.Frag) (C : Addr) : Sp := fun vs H Q _ => ∃ (sg : List Nat) (a b : V) (R : List (List Nat)) (k : List Bool) (st : Nat), vs = [tx sg, a, b, .int (st : Int)] ∧ Lets sg ∧ Rw K H a R ∧ Sq K H b (k.map V.bl) ∧ M14.Sht sg.length R k ∧ st < R.length ∧
  ∀ H' x, Same H H' → H x = none → Mach C K H' x sg (M14.fromR R st) (M14.fromK R k st) → Q (.ref x) H'
end
end Lw

namespace Lw
open PySem PySem.Spec PyProof.Rows L3
open L2 hiding del del_same del_ne
def isTyV : Value → Bool
  | .type _ => true
  | _ => false
def plainTy (ty : String) : Bool := match PySem.fastBuiltinMro ty with
  | some l => l.all isTyV
  | none => false
theorem sub_plain {K : PySem.W.Frag} {C : Addr} {ty : String} (h : plainTy ty = true) : PySem.W.subIn K (.type ty) (.ref C) = some false := by
  unfold plainTy at h
  show (PySem.fastBuiltinMro ty).map (·.contains (.ref C)) = some false
  cases e : PySem.fastBuiltinMro ty with
  | none => rw [e] at h; cases h
  | some l =>
    rw [e] at h
    simp only [Option.map_some, Option.some.injEq]
    rw [← Bool.not_eq_true, List.contains_iff_mem]
    intro hm
    have := List.all_eq_true.mp h _ hm
    cases this
theorem first_plain {K : PySem.W.Frag} {C : Addr} {ty : String} (h : plainTy ty = true) : PySem.W.notFirst K C (.type ty) = true := by
  unfold PySem.W.notFirst
  rw [sub_plain h]
  simp
theorem first_own {K : PySem.W.Frag} {C : Addr} : PySem.W.notFirst K C (.ref C) = true := by
  unfold PySem.W.notFirst
  simp
theorem Rw.sq {K : PySem.W.Frag} {H : Hp} {v : V} {R : List (List Nat)} (h : Rw K H v R) : ∃ xs, Sq K H v xs ∧ xs.length = R.length := by
  obtain ⟨xs, a, b, _⟩ := h
  exact ⟨xs, a, b⟩
section
variable {P : Program} {w : World} {K : PySem.W.Frag} {mg : Str → Option Value} {base : Heap}
/-! ### Machine.letters -/
def spLetters (K : PySem.W.Frag) (C : Addr) : Sp := fun vs H Q _ => ∃ a sg R k, vs = [.ref a] ∧ Mach C K H a sg R k ∧ Q (tx sg) H
/-! ### Machine.__len__ -/
def spLen (K : PySem.W.Frag) (C : Addr) : Sp := fun vs H Q _ => ∃ a sg R k, vs = [.ref a] ∧ Mach C K H a sg R k ∧ Q (.int (R.length : Int)) H
/-! ### Machine.kinds -/
def spKinds (K : PySem.W.Frag) (C : Addr) : Sp := fun vs H Q _ => ∃ a sg R k, vs = [.ref a] ∧ Mach C K H a sg R k ∧ ∀ p, H p = none → Q (.ref p) (upd H p (.lst (k.map V.bl)))
theorem ok_Machine_kinds (T : All K mg) : FnOk P w K mg base CX0 1 T.f_Machine_kinds T.d_Machine_kinds ["self"] (spKinds K T.C_Machine) := by
  refine T.Machine_kinds.F.ok sc_Machine_kinds (fun vs H Q E h => ?_) (fun cdv A outer s H vs Q E hr h => ?_)
  · obtain ⟨a, sg, R, k, rfl, _⟩ := h
    rfl
  · obtain ⟨a, sg, R, k, rfl, hM, q⟩ := h
    obtain ⟨dx, r, qq, hat, hr1, hk1⟩ := hM.at_
    refine ⟨_, pss_one (ps_ret (pe_callTy call_list_of (by rfl) T.b_list PyProof.Rows.boot_list (pa_cons (pe_fld (pv 0) rfl) pa_nil))), ?_⟩
    exact ⟨_, rfl, a, T.C_Machine, dx, _, _, rfl, hat, T.cl_Machine, T.n_Machine_own_kinds, rfl, qq, _, rfl, .inr hk1, q⟩
/-! ### Machine.rows -/
/-- a new list of new lists -/
def NewRows (H H' : Hp) (p : Addr) (R : List (List Nat)) : Prop := ∃ xs, H' p = some (.lst xs) ∧ xs.length = R.length ∧ ∀ (i : Nat) (x : V), xs[i]? = some x → ∃ q, x = .ref q ∧ H q = none ∧ q ≠ p ∧ H' q = some (.lst (nV (M14.row R i)))
theorem NewRows.dp {K : PySem.W.Frag} {H H' : Hp} {p : Addr} {R : List (List Nat)} (h : NewRows H H' p R) : Dp K H' (.ref p) (dLR R) := by
  obtain ⟨xs, hp, hl, hx⟩ := h
  refine .lst (.inl (.inl hp)) (dpAll_of (by rw [List.length_map]; exact hl) fun i x d h1 h2 => ?_)
  obtain ⟨q, rfl, _, _, hq⟩ := hx i x h1
  rw [List.getElem?_map] at h2
  obtain ⟨r, hr, rfl⟩ := Option.map_eq_some_iff.mp h2
  rw [M14.row_get hr] at hq
  exact .lst (.inl (.inl hq)) (dpAll_nV r)
def spRows (K : PySem.W.Frag) (C : Addr) : Sp := fun vs H Q _ => ∃ a sg R k, vs = [.ref a] ∧ Mach C K H a sg R k ∧ ∀ H' p, Same H H' → H p = none → NewRows H H' p R → Q (.ref p) H'
theorem ok_Machine_rows (T : All K mg) : FnOk P w K mg base CX0 1 T.f_Machine_rows T.d_Machine_rows ["self"] (spRows K T.C_Machine) := by
  refine T.Machine_rows.F.ok sc_Machine_rows (fun vs H Q E h => ?_) (fun cdv A outer s H vs Q E hr h => ?_)
  · obtain ⟨a, sg, R, k, rfl, _⟩ := h
    rfl
  · obtain ⟨a, sg, R, k, rfl, hM, q⟩ := h
    obtain ⟨dx, r, qq, hat, hr1, hk1⟩ := hM.at_
    have hfew := hM.good.few
    obtain ⟨xs, hS, hl, hrow⟩ := rw_dTR hr1
    obtain ⟨_, _, e', hST, _⟩ := dp_tuple hr1
    cases e'
    obtain ⟨ra, ys, e2, hST, hAll⟩ := dp_tuple hr1
    cases e2
    have hyl : ys.length = R.length := by rw [dpAll_len hAll, List.length_map]
    refine ⟨_, pss_one (ps_ret (pe_lc (own := [("row", 1)]) (g := gName 1) (tt := tYes) rfl sc_Machine_rows.nd (pi_tup (pe_fld (pv 0) rfl))
          (blkOk_by (own := [("row", 1)]) (N := ["self", "row"]) (sc := defScope s_Machine_rows) (by decide +kernel))
          (fun _ _ _ _ _ => pg_name (i := 1) sc_Machine_rows.nd rfl (by first | exact Or.inl rfl | exact Or.inr rfl)) (fun _ _ _ _ _ => pts_nil)
          (fun _ _ _ _ _ => (pe_callTy (call_list_ofK (K := K) rfl) (by rfl) T.b_list PyProof.Rows.boot_list (pa_cons (pv 1) pa_nil))))), ?_⟩
    refine ⟨_, rfl, a, T.C_Machine, dx, _, _, rfl, hat, T.cl_Machine, T.n_Machine_own_rows, rfl, r, rfl, ⟨_, hST⟩, fun D nD => ?_⟩
    refine lc_dp (walk_tup (xs := ys)) (fun i acc H' => Same H H' ∧ acc.length = i ∧ ∀ (j : Nat) (x : V), acc[j]? = some x → ∃ q, x = .ref q ∧ H q = none ∧ q ≠ D ∧ H' q = some (.lst (nV (M14.row R j)))) (sz (by omega)) (fun i acc H' p => Nat.le_of_eq p.2.1) nD ⟨Same.refl _, rfl, fun j x e => by simp at e⟩ (fun i acc H' p _ => sqT_same hST (p.1.trans (del_same _ _))) (fun i y Hh H' acc C N hi p hD yy c n => ?_) (fun H5 xs' hD5 p => ?_)
    · obtain ⟨rfl, hy⟩ := yy
      obtain ⟨sm, hlen, hacc⟩ := p
      obtain ⟨d, hd, hdp⟩ := dpAll_back hAll hy
      rw [List.getElem?_map] at hd
      obtain ⟨rr, hr2, rfl⟩ := Option.map_eq_some_iff.mp hd
      obtain ⟨pa, zs, rfl, hS2, hA2⟩ := dp_tuple hdp
      rw [dpAll_nats hA2] at hS2
      have sH := sm.trans (del_same _ _)
      refine ⟨rfl, yes_te ⟨_, rfl, pa, nV rr, rfl, .inr (sqT_same hS2 sH), fun l nl => ?_⟩⟩
      have nlD : l ≠ D := fun e => by rw [e, hD] at nl; cases nl
      refine c _ _ (by rw [upd_ne nlD.symm]; exact hD) ⟨same_del (same_up sH (sH.free nl)) nD, by rw [List.length_append, hlen]; rfl, fun j x e => ?_⟩
      by_cases hj : j < acc.length
      · rw [List.getElem?_append_left hj] at e
        obtain ⟨q1, e1, n1, n2, e2⟩ := hacc j x e
        refine ⟨q1, e1, n1, n2, ?_⟩
        rw [del_ne n2] at e2
        rw [del_ne n2, upd_ne (ne_of_none e2 nl)]
        exact e2
      · have hj2 : j = i := by
          have := (List.getElem?_eq_some_iff.mp e).1
          rw [List.length_append, List.length_singleton] at this
          omega
        subst hj2
        rw [List.getElem?_append_right (by omega), hlen, Nat.sub_self] at e
        cases e
        exact ⟨l, rfl, sH.free nl, nlD, by rw [del_ne nlD, upd_same, M14.row_get hr2]⟩
    · obtain ⟨sm, hlen, hacc⟩ := p
      refine q _ D (sm.trans (del_same _ _)) nD ⟨xs', hD5, by rw [hlen, hyl], fun i x e => ?_⟩
      obtain ⟨q1, e1, n1, n2, e2⟩ := hacc i x e
      exact ⟨q1, e1, n1, n2, del_same _ _ _ _ e2⟩
/-! ### want_text, want_letter, want_place -/
theorem all_in {sg t : List Nat} (h : ∀ c ∈ t, c ∈ sg) : (t.all fun c => decide (c ∈ sg)) = true := by
  rw [List.all_eq_true]; exact fun c hc => decide_eq_true (h c hc)
def spWantText : Sp := fun vs H Q _ => ∃ sg t, vs = [tx sg, tx t] ∧ t.length ≤ 1000 ∧ (∀ c ∈ t, c ∈ sg) ∧ ∀ H', Same H H' → Q .non H'
theorem ok_want_text (T : All K mg) : FnOk P w K mg base CX0 2 T.f_want_text T.d_want_text ["letters", "text"] spWantText := by
  refine T.want_text.F.ok sc_want_text (fun vs H Q E h => ?_) (fun cdv A outer s H vs Q E hr h => ?_)
  · obtain ⟨sg, t, rfl, _⟩ := h
    rfl
  · obtain ⟨sg, t, rfl, hz, ht, q⟩ := h
    refine ⟨_, pss_one (ps_if (pt_not (pt_val (pe_call (ok_is_text_over T) (hr.mono (by decide)) (by rfl) T.is_text_over.g T.is_text_over.F.kp T.is_text_over.b .nil pass0 (pa_cons (pv 0) (pa_cons (pv 1) pa_nil))))) (pss_one ps_never) pss_nil), ?_⟩
    refine ⟨_, rfl, _, rfl, sg, tx t, rfl, .inl ⟨t, rfl, hz, fun H1 s1 => ⟨true, ?_, iteF (q _ s1)⟩⟩⟩
    rw [all_in ht]
def spWantLetter : Sp := fun vs H Q _ => ∃ sg c, vs = [tx sg, tx [c]] ∧ c ∈ sg ∧ ∀ H', Same H H' → Q .non H'
theorem ok_want_letter (T : All K mg) : FnOk P w K mg base CX0 2 T.f_want_letter T.d_want_letter ["letters", "letter"] spWantLetter := by
  refine T.want_letter.F.ok sc_want_letter (fun vs H Q E h => ?_) (fun cdv A outer s H vs Q E hr h => ?_)
  · obtain ⟨sg, t, rfl, _⟩ := h
    rfl
  · obtain ⟨sg, c, rfl, hc, q⟩ := h
    refine ⟨_, pss_one (ps_if (PW.pt (pw_or (pt_not (pt_val (pe_call (ok_is_text_over T) (hr.mono (by decide)) (by rfl) T.is_text_over.g T.is_text_over.F.kp T.is_text_over.b .nil pass0 (pa_cons (pv 0) (pa_cons (pv 1) pa_nil))))) (pw_or1 (pt_cmpR op_ne (pe_callB call_lenT (by rfl) T.b_len PySem.boot_len (pa_cons (pv 1) pa_nil)) pe_int (nomark _))))) (pss_one ps_never) pss_nil), ?_⟩
    refine ⟨_, rfl, _, rfl, sg, tx [c], rfl, .inl ⟨[c], rfl, by simp, fun H1 s1 => ⟨true, ?_, iteF ?_⟩⟩⟩
    · rw [all_in (by simpa using hc)]
    · exact ⟨_, rfl, [c], rfl, by show 1 ≤ sizeLine; decide, rfl, _, rfl, ite_f (by simp) (q _ s1)⟩
def spWantPlace (K : PySem.W.Frag) (C : Addr) : Sp := fun vs H Q _ => ∃ (a : Addr) (p : Nat) (sg : List Nat) (R : List (List Nat)) (k : List Bool), vs = [.ref a, .int (p : Int)] ∧ Mach C K H a sg R k ∧ p < R.length ∧ Q .non H
theorem ok_want_place (T : All K mg) : FnOk P w K mg base CX0 2 T.f_want_place T.d_want_place ["machine", "place"] (spWantPlace K T.C_Machine) := by
  refine T.want_place.F.ok sc_want_place (fun vs H Q E h => ?_) (fun cdv A outer s H vs Q E hr h => ?_)
  · obtain ⟨a, p, sg, R, k, rfl, _⟩ := h
    rfl
  · obtain ⟨a, p, sg, R, k, rfl, hM, hp, q⟩ := h
    obtain ⟨dx, r, qq, hat, hr1, hk1⟩ := hM.at_
    obtain ⟨xs, hS, hl⟩ := (rw_dTR hr1).sq
    obtain ⟨r', e, hS'⟩ := hS
    cases e
    refine ⟨_, pss_one (ps_if (PW.pt (pw_or (pt_not (pt_val (pe_call (ok_is_integer T) (hr.mono (by decide)) (by rfl) T.is_integer.g T.is_integer.F.kp T.is_integer.b .nil pass0 (pa_cons (pv 1) pa_nil)))) (pw_or1 (pt_not (pt_chain op_le op_lt pe_int (pv 1) (pe_callB call_len_seq (by rfl) T.b_len PySem.boot_len (pa_cons (pe_fld (pv 0) rfl) pa_nil))))))) (pss_one ps_never) pss_nil), ?_⟩
    refine ⟨_, rfl, _, rfl, true, rfl, iteF ?_⟩
    refine ⟨_, rfl, _, _, rfl, rfl, _, rfl, ite_t (decide_eq_true (by omega)) ?_⟩
    refine ⟨_, rfl, a, T.C_Machine, dx, _, _, rfl, hat, T.cl_Machine, T.n_Machine_own_rows, rfl, r, xs, rfl, hS', _, _, rfl, rfl, true, ?_, iteF q⟩
    exact congrArg V.bl (decide_eq_true (by omega))
/-! ### led, is_taken -/
def spLed (K : PySem.W.Frag) (C : Addr) : Sp := fun vs H Q _ => ∃ (a : Addr) (p : Nat) (t sg : List Nat) (R : List (List Nat)) (k : List Bool), vs = [.ref a, .int (p : Int), tx t] ∧ Mach C K H a sg R k ∧ p < R.length ∧ (∀ c ∈ t, c ∈ sg) ∧ Q (.int ((M14.led sg R p t : Nat) : Int)) H
theorem ok_led (T : All K mg) : FnOk P w K mg base CX0 1 T.f_led T.d_led ["machine", "place", "text"] (spLed K T.C_Machine) := by
  refine T.led.F.ok sc_led (fun vs H Q E h => ?_) (fun cdv A outer s H vs Q E hr h => ?_)
  · obtain ⟨a, p, t, sg, R, k, rfl, _⟩ := h
    rfl
  · obtain ⟨a, p, t, sg, R, k, rfl, hM, hp, ht, q⟩ := h
    obtain ⟨dx, r, qq, hat, hr1, hk1⟩ := hM.at_
    obtain ⟨ra, ys, e2, hST, hAll⟩ := dp_tuple hr1
    cases e2
    refine ⟨_, pss_cons (ps_set (i := 3) sc_led.nd rfl (by first | exact Or.inl rfl | exact Or.inr rfl) (pv 1))
      (pss_cons (ps_for PassesOwn.never rfl (pi_str (pv 2)) (pg_name (i := 4) sc_led.nd rfl (by first | exact Or.inl rfl | exact Or.inr rfl))
        (pss_one (ps_set (i := 3) sc_led.nd rfl (by first | exact Or.inl rfl | exact Or.inr rfl) (pe_ix ix_tup (pe_ix ix_tup (pe_fld (pv 0) rfl) (pv 3) (fun _ _ => rfl)) (pe_bm PySem.F.plainAttrs_str PySem.F.slot_str_index PySem.F.type_str_index mt_indexT (pe_fld (pv 0) rfl) (pa_cons (pv 4) pa_nil)) (fun _ _ => rfl)))))
      (pss_one (ps_ret (pv 3)))), ?_⟩
    refine ⟨_, rfl, _, rfl, tS t, rfl, for_it walk_tx (fun i σ H' => ∃ c, σ = [some (.ref a), some (.int (p : Int)), some (tx t), some (.int ((M14.led sg R p (t.take i) : Nat) : Int)), c] ∧ H' = H) ⟨none, rfl, rfl⟩ (fun _ _ _ _ _ => trivial) (fun i x σ H1 H2 hi pp y => ?_) (fun σ H' pp => ?_)⟩
    · obtain ⟨c0, rfl, rfl⟩ := pp
      obtain ⟨rfl, c, hc, rfl⟩ := y
      have hcs := ht c (List.mem_of_getElem? hc)
      have hlt : M14.led sg R p (t.take i) < R.length := M14.led_lt hM.good.toSht hp fun x hx => ht x (List.mem_of_mem_take hx)
      obtain ⟨g, hg, hgl, hgd⟩ := M14.led_step hM.good.toSht hlt hcs
      obtain ⟨y, hy, hdy⟩ := dpAll_get hAll (i := M14.led sg R p (t.take i)) (d := .tuple (dN (M14.row R (M14.led sg R p (t.take i))))) (by rw [List.getElem?_map, M14.row_at hlt]; rfl)
      obtain ⟨ya, zs, rfl, hSy, hAy⟩ := dp_tuple hdy
      rw [dpAll_nats hAy] at hSy
      refine ⟨_, rfl, a, T.C_Machine, dx, _, _, rfl, hat, T.cl_Machine, T.n_Machine_own_rows, rfl, _, rfl, r, ys, _, _, rfl, rfl, hST, atI_nat hy, ?_⟩
      refine ⟨_, rfl, a, T.C_Machine, dx, _, _, rfl, hat, T.cl_Machine, T.n_Machine_own_letters, rfl, rfl, _, rfl, sg, c, rfl, rfl, hcs, ?_⟩
      refine ⟨ya, _, _, _, rfl, rfl, hSy, atI_nat (nV_get hg), some (tx [c]), ?_, rfl⟩
      rw [List.take_add_one, hc]
      show _ = [_, _, _, some (V.int ((M14.led sg R p (t.take i ++ [c]) : Nat) : Int)), _]
      rw [M14.led_snoc, hgd]
      rfl
    · obtain ⟨c0, rfl, rfl⟩ := pp
      rw [List.take_length]
      exact ⟨_, rfl, q⟩
def spTaken (K : PySem.W.Frag) (C : Addr) : Sp := fun vs H Q _ => ∃ (a : Addr) (t sg : List Nat) (R : List (List Nat)) (k : List Bool), vs = [.ref a, tx t] ∧ Mach C K H a sg R k ∧ (∀ c ∈ t, c ∈ sg) ∧ Q (.bl (M14.kAt k (M14.led sg R 0 t))) H
theorem ok_is_taken (T : All K mg) : FnOk P w K mg base CX0 2 T.f_is_taken T.d_is_taken ["machine", "text"] (spTaken K T.C_Machine) := by
  refine T.is_taken.F.ok sc_is_taken (fun vs H Q E h => ?_) (fun cdv A outer s H vs Q E hr h => ?_)
  · obtain ⟨a, t, sg, R, k, rfl, _⟩ := h
    rfl
  · obtain ⟨a, t, sg, R, k, rfl, hM, ht, q⟩ := h
    obtain ⟨dx, r, qq, hat, hr1, hk1⟩ := hM.at_
    refine ⟨_, pss_one (ps_ret (pe_ix ix_tup (pe_fld (pv 0) rfl) (pe_call (ok_led T) (hr.mono (by decide)) (by rfl) T.led.g T.led.F.kp T.led.b .nil pass0 (pa_cons (pv 0) (pa_cons pe_int (pa_cons (pv 1) pa_nil)))) (fun _ _ => rfl))), ?_⟩
    refine ⟨_, rfl, a, T.C_Machine, dx, _, _, rfl, hat, T.cl_Machine, T.n_Machine_own_kinds, rfl, _, rfl, _, rfl, a, 0, t, sg, R, k, rfl, hM, hM.good.ne, ht, ?_⟩
    refine ⟨qq, _, _, _, rfl, rfl, hk1, atI_nat (kAt_get ?_), q⟩
    rw [hM.good.kin]
    exact M14.led_lt hM.good.toSht hM.good.ne ht
end
end Lw

namespace Lw
open PySem PySem.Spec PyProof.Rows L3
open L2 hiding del del_same del_ne
section
variable {w : World} {K : PySem.W.Frag} {mg : Str → Option Value} {base : Heap}
/-! ### Machine.__init__, that may raise -/
def spInitX (K : PySem.W.Frag) (C Ce : Addr) : Sp := fun vs H Q E => ∃ (x dx : Addr) (sg : List Nat) (a b : V) (R : List (List Nat)) (k : List Bool), vs = [.ref x, tx sg, a, b] ∧ H x = some (.ins C dx []) ∧ Lets sg ∧ Rw K H a R ∧ Sq K H b (k.map V.bl) ∧ M14.Sht sg.length R k ∧
  (M14.Good sg.length R k → ∀ H', (∀ b o, H b = some o → b ≠ x → H' b = some o) → Mach C K H' x sg R k → Q .non H') ∧
  ((¬ ∀ p, p < R.length → p ∈ M14.met R 0) → ∀ H' d, Same H H' → E (.ref Ce) (some d) H')
theorem ok_Machine_initX (T : All K mg) : FnOk PW w K mg base (L2.CX PW w) 4 T.f_Machine_init T.d_Machine_init ["self", "letters", "rows", "kinds"] (spInitX K T.C_Machine T.C_NotComeTo) := by
  refine T.Machine_init.F.okX sc_Machine_init (fun vs H Q E h => ?_) (fun cdv A outer s H vs Q E hr h => ?_)
  · obtain ⟨x, dx, sg, a, b, R, k, rfl, _⟩ := h
    rfl
  · obtain ⟨x, dx, sg, a, b, R, k, rfl, hx, hl, hR, hk, hG, q, qE⟩ := h
    refine ⟨_, pss_cons (ps_expr (pe_call (ok_want_machine T) (hr.mono (by decide)) (by rfl) T.want_machine.g T.want_machine.F.kp T.want_machine.b .nil pass0 (pa_cons (pv 1) (pa_cons (pv 2) (pa_cons (pv 3) pa_nil)))))
      (pss_cons (ps_set (i := 4) sc_Machine_init.nd rfl (by first | exact Or.inl rfl | exact Or.inr rfl) (pe_call (ok_met_from T) (hr.mono (by decide)) (by rfl) T.met_from.g T.met_from.F.kp T.met_from.b .nil pass0 (pa_cons (pv 2) (pa_cons pe_int pa_nil))))
      (pss_cons (ps_for (passes_of rfl) rfl (pi_range1 rfl T.b_range (pa_cons (pe_callB call_len_seq (by rfl) T.b_len PySem.boot_len (pa_cons (pv 2) pa_nil)) pa_nil)) (pg_name (i := 5) sc_Machine_init.nd rfl (by first | exact Or.inl rfl | exact Or.inr rfl))
        (pss_one (ps_if (pt_cmpR op_notInN (pv 5) (pv 4) (by rfl)) (pss_one (ps_raise1 rfl T.er_NotComeTo (hr.mono (by decide)) (takes_of rfl rfl rfl rfl) T.g_NotComeTo (pa_cons (pv 5) pa_nil))) pss_nil)))
      (pss_cons (ps_fld (pv 0) (pv 1) rfl)
      (pss_cons (ps_fld (pv 0) (pe_callTy call_tuple_of (by rfl) T.b_tuple (show bootBuiltins "tuple" = some (.type "tuple") by decide +kernel) (pa_cons (pe_lc (own := [("row", 6)]) (g := gName 6) (tt := tYes) rfl sc_Machine_init.nd (pi_sq (pv 2))
          (blkOk_by (own := [("row", 6)]) (N := ["self", "letters", "rows", "kinds", "met", "place", "row"]) (sc := defScope s_Machine_init) (by decide +kernel))
          (fun _ _ _ _ _ => pg_name (i := 6) sc_Machine_init.nd rfl (by first | exact Or.inl rfl | exact Or.inr rfl)) (fun _ _ _ _ _ => pts_nil)
          (fun _ _ _ _ _ => (pe_callTy (call_tuple_ofK (K := K) rfl) (by rfl) T.b_tuple (show bootBuiltins "tuple" = some (.type "tuple") by decide +kernel) (pa_cons (pv 6) pa_nil)))) pa_nil)) rfl)
      (pss_one (ps_fld (pv 0) (pe_callTy call_tuple_of (by rfl) T.b_tuple (show bootBuiltins "tuple" = some (.type "tuple") by decide +kernel) (pa_cons (pv 3) pa_nil)) rfl)))))), ?_⟩
    refine ⟨_, rfl, _, rfl, _, rfl, sg, a, b, R, k, rfl, hl, hR, hk, hG, fun H1 s1 => ?_⟩
    refine ⟨_, rfl, a, R, 0, rfl, hR.same s1, hG.val, hG.ne, hG.few, fun H2 M s2 nM hM => ?_⟩
    have s12 := s1.trans s2
    obtain ⟨xs, hS, hlen, hrow⟩ := id hR
    obtain ⟨aa, rfl, hSS⟩ := hS.same s12
    refine ⟨_, rfl, aa, xs, rfl, hSS, _, rfl, by omega, by have := hG.few; omega, ?_⟩
    rw [show ((xs.length : Int)).toNat = xs.length by omega]
    refine for_it walk_range (fun i σ H' => ∃ p, σ = [some (.ref x), some (tx sg), some (.ref aa), some b, some (.ref M), p, none] ∧ H' = H2 ∧ ∀ j, j < i → j ∈ M14.met R 0) ⟨none, rfl, rfl, fun j hj => by omega⟩ (fun _ _ _ _ _ => trivial) (fun i x' σ H3 H4 hi p y => ?_) (fun σ H3 p => ?_)
    · obtain ⟨p0, rfl, rfl, hal⟩ := p
      obtain ⟨rfl, rfl⟩ := y
      refine ⟨_, rfl, _, rfl, _, i, congrArg V.int (Int.zero_add _), sq_list (.inl (.inl hM)), _, rfl, ?_⟩
      by_cases hin : i ∈ M14.met R 0
      · refine ite_f (by simp [hin]) ⟨_, rfl, rfl, fun j hj => ?_⟩
        rcases Nat.lt_or_ge j i with z | z
        · exact hal j z
        · rw [show j = i by omega]; exact hin
      · refine ite_t (by simp [hin]) ⟨_, rfl, _, rfl, fun d nd => ?_⟩
        exact qE (fun z => hin (z i (by omega))) _ d (s12.trans (same_upd nd))
    · obtain ⟨p0, rfl, rfl, hal⟩ := p
      have hGd : M14.Good sg.length R k := ⟨hG, fun p hp => hal p (by omega)⟩
      replace q := q hGd
      clear qE
      replace hG := hGd
      have hx2 := s12 _ _ hx
      have hB0 : (del H x) x = none := del_at H x
      have sB2 : Same (del H x) H3 := (del_same H x).trans s12
      have hSB : Sq K (del H x) (.ref aa) xs := sq_del hx hS
      have hrB : ∀ (i : Nat) (y : V) (r : List Nat), xs[i]? = some y → R[i]? = some r → Sq K (del H x) y (nV r) := fun i y r h1 h2 => sq_del hx (hrow i y r h1 h2)
      have hkB : Sq K (del H x) b (k.map V.bl) := sq_del hx hk
      refine ⟨_, rfl, _, rfl, x, T.C_Machine, dx, [], rfl, hx2, T.cl_Machine, T.n_Machine_own_letters, by decide, ?_⟩
      have sB4 : Same (del H x) (upd H3 x (.ins T.C_Machine dx (putF "own_letters" (tx sg) []))) := same_up sB2 hB0
      refine ⟨_, rfl, xs, del H x, hSB, sB4, fun J G wk hGG D nD => ?_⟩
      have hBD : (del H x) D = none := sB4.free nD
      refine lc_data (K := K) wk (R.map fun r => .tuple (dN r)) (by rw [List.length_map, hlen]) (sz (by have := hG.few; omega)) nD (fun H' s' => hGG H' (sB4.trans s')) (fun i y Hh H' acc d C hi sm hD yy hd c => ?_) gName_mono (fun H5 xs' s5 hD5 hA => ?_)
      · obtain ⟨rfl, hy⟩ := yy
        rw [List.getElem?_map] at hd
        obtain ⟨r, hr1, rfl⟩ := Option.map_eq_some_iff.mp hd
        obtain ⟨pa, rfl, hp⟩ := hrB i y r hy hr1
        have sBh := sB4.trans sm
        refine ⟨rfl, ⟨_, rfl, pa, nV r, rfl, ?_⟩⟩
        rcases hp with hp | hp
        · refine .inl ⟨sq_same hp sBh, fun l nl => c _ _ (same_upd nl) (.tup (.inl (.inl ?_)) (dpAll_nV r))⟩
          rw [del_ne (fun e => by rw [e, hD] at nl; cases nl), upd_same]
        · exact .inr ⟨sqT_same hp sBh, c _ _ (Same.refl _) (.tup (sqT_same hp (same_del sBh hBD)) (dpAll_nV r))⟩
      · have hx5 := s5 _ _ (upd_same (H := H3) (a := x))
        have nDx : x ≠ D := fun e => by rw [← e, upd_same] at nD; cases nD
        refine ⟨D, xs', rfl, .inl ⟨.inl (.inl hD5), fun r nr => ?_⟩⟩
        have nrx : x ≠ r := fun e => by rw [← e, hx5] at nr; cases nr
        have hx6 : upd H5 r (.tup xs') x = some (.ins T.C_Machine dx (putF "own_letters" (tx sg) [])) := by rw [upd_ne nrx]; exact hx5
        refine ⟨_, rfl, x, T.C_Machine, dx, _, rfl, hx6, T.cl_Machine, T.n_Machine_own_rows, putF_lt (n := 0) (Nat.zero_le _) (by decide), ?_⟩
        have sB5 := sB4.trans s5
        have hBr : (del H x) r = none := sB5.free nr
        have sB6 : Same (del H x) (upd (upd H5 r (.tup xs')) x (.ins T.C_Machine dx (putF "own_rows" (.ref r) (putF "own_letters" (tx sg) [])))) := same_up (same_up sB5 hBr) hB0
        have hA2 : DpAll K (del (del H5 D) x) xs' (R.map fun r => .tuple (dN r)) := dpAll_del (by rw [del_ne nDx]; exact hx5) hA
        have sA : ∀ H7, Same (upd (del (del H5 D) x) r (.tup xs')) H7 → Dp K H7 (.ref r) (dTR R) := fun H7 s7 => .tup (.inl (.inl (s7 _ _ upd_same))) (DpAll.same ((same_upd (by
          rw [del_ne nrx.symm]; unfold del; split <;> first | rfl | exact nr)).trans s7) hA2)
        have s66 : Same (upd (del (del H5 D) x) r (.tup xs')) (upd (upd H5 r (.tup xs')) x (.ins T.C_Machine dx (putF "own_rows" (.ref r) (putF "own_letters" (tx sg) [])))) := fun bb o e => by
          have nbx : bb ≠ x := fun z => by
            rw [z, upd_ne nrx, del_at] at e; cases e
          rw [upd_ne nbx]
          by_cases hbr : bb = r
          · rw [hbr, upd_same] at e ⊢; exact e
          · rw [upd_ne hbr, del_ne nbx] at e
            rw [upd_ne hbr]
            exact del_same _ _ _ _ e
        have fin : ∀ (H7 : Hp) (qq : Addr), Same (upd (upd H5 r (.tup xs')) x (.ins T.C_Machine dx (putF "own_rows" (.ref r) (putF "own_letters" (tx sg) [])))) H7 → SqT K (del H7 x) qq (k.map V.bl) → Q .non (upd H7 x (.ins T.C_Machine dx (putF "own_kinds" (.ref qq) (putF "own_rows" (.ref r) (putF "own_letters" (tx sg) []))))) := fun H7 qq s7 hq => by
          have hx7 := s7 _ _ (upd_same (a := x))
          have sd : Same (del H7 x) (upd H7 x (.ins T.C_Machine dx (putF "own_kinds" (.ref qq) (putF "own_rows" (.ref r) (putF "own_letters" (tx sg) []))))) := same_up (del_same _ _) (del_at _ _)
          refine q _ (fun bb o e nb => ?_) ⟨⟨dx, r, qq, upd_same, ?_, sqT_same hq sd⟩, hl, hG⟩
          · rw [upd_ne nb]
            exact s7 _ _ (sB6 _ _ (by rw [del_ne nb]; exact e))
          · exact Dp.same sd (dp_del hx7 (sA _ (s66.trans s7)))
        obtain ⟨bb, rfl, hkk⟩ := id hkB
        refine ⟨_, rfl, bb, k.map V.bl, rfl, ?_⟩
        rcases hkk with hkk | hkk
        · refine .inl ⟨sq_same hkk sB6, fun qq nq => ?_⟩
          have nqx : x ≠ qq := fun e => by rw [← e, upd_same] at nq; cases nq
          refine ⟨_, rfl, x, T.C_Machine, dx, _, rfl, by rw [upd_ne nqx, upd_same], T.cl_Machine, T.n_Machine_own_kinds, putF_lt (n := 1) (putF_len _ _ _) (by decide), ?_⟩
          exact fin _ qq (same_upd nq) (.inl (.inl (by rw [del_ne nqx.symm, upd_same])))
        · refine .inr ⟨sqT_same hkk sB6, ?_⟩
          refine ⟨_, rfl, x, T.C_Machine, dx, _, rfl, upd_same, T.cl_Machine, T.n_Machine_own_kinds, putF_lt (n := 1) (putF_len _ _ _) (by decide), ?_⟩
          exact fin _ bb (Same.refl _) (sqT_same hkk (same_del sB6 hB0))
end
end Lw
namespace Lw
open PySem PySem.Spec PyProof.Rows L3
open L2 hiding del del_same del_ne
/-! ### the dict of least texts -/
abbrev nk (n : Nat) : Key := Sum.inl (n : Int)
theorem nk_inj {a b : Nat} (h : nk a = nk b) : a = b := by have := Sum.inl.inj h; omega
def kvF (L : List (Nat × List Nat)) : List (Key × V) := L.map fun q => (nk q.1, tx q.2)
theorem kvF_val (p : Nat) : ∀ L : List (Nat × List Nat), valV (kvF L) (nk p) = (L.lookup p).map tx
  | [] => rfl
  | (a, t) :: L => by
    have ih := kvF_val p L
    unfold valV kvF at ih ⊢
    rw [List.map_cons, List.find?_cons]
    by_cases h : a = p
    · subst h
      rw [decide_eq_true rfl, List.lookup_cons_self]
      rfl
    · rw [decide_eq_false fun z => h (nk_inj z), List.lookup_cons]
      have e : (p == a) = false := by simpa using fun z : p = a => h z.symm
      rw [e]
      exact ih
theorem lookup_some {p : Nat} : ∀ {L : List (Nat × List Nat)}, (L.lookup p).isSome = decide (p ∈ L.map (·.1))
  | [] => by simp
  | (a, t) :: L => by
    rw [List.lookup_cons, List.map_cons]
    by_cases h : p = a
    · subst h; simp
    · have e : (p == a) = false := by simpa using h
      rw [e]
      simp only []
      rw [lookup_some (L := L)]
      simp [h]
theorem kvF_put {L : List (Nat × List Nat)} {p : Nat} {t : List Nat} (h : p ∉ L.map (·.1)) : putK (kvF L) (nk p) (tx t) = kvF (L ++ [(p, t)]) := by
  unfold putK
  rw [if_neg]
  · unfold kvF; rw [List.map_append]; rfl
  · intro z
    rw [List.any_eq_true] at z
    obtain ⟨x, hx, e⟩ := z
    obtain ⟨q, hq, rfl⟩ := List.mem_map.mp hx
    have := nk_inj (of_decide_eq_true e)
    exact h (List.mem_map.mpr ⟨q, hq, this⟩)
theorem lookup_app {L M : List (Nat × List Nat)} {p : Nat} {t : List Nat} (h : L.lookup p = some t) : (L ++ M).lookup p = some t := by
  induction L with
  | nil => cases h
  | cons a L ih =>
    obtain ⟨a, u⟩ := a
    rw [List.cons_append, List.lookup_cons]
    rw [List.lookup_cons] at h
    cases e : p == a with
    | true => rw [e] at h; exact h
    | false => rw [e] at h; exact ih h
theorem lookup_of : ∀ {L : List (Nat × List Nat)} {q : Nat × List Nat}, (L.map (·.1)).Nodup → q ∈ L → L.lookup q.1 = some q.2
  | (a, u) :: L, q, hd, hq => by
    rw [List.lookup_cons]
    rcases List.mem_cons.mp hq with rfl | hq
    · simp
    · have hn := (List.nodup_cons.mp hd).1
      have e : (q.1 == a) = false := by
        simp only [beq_eq_false_iff_ne]
        intro z
        exact hn (List.mem_map.mpr ⟨q, hq, z⟩)
      rw [e]
      exact lookup_of (List.nodup_cons.mp hd).2 hq
theorem foldF_pre (t : List Nat) : ∀ (l : List (Nat × Nat)) (L : List (Nat × List Nat)), ∃ M, l.foldl (M14.addF t) L = L ++ M
  | [], L => ⟨[], by simp⟩
  | a :: l, L => by
    obtain ⟨M, e⟩ := foldF_pre t l (M14.addF t L a)
    rw [List.foldl_cons, e]
    unfold M14.addF
    split
    · exact ⟨M, rfl⟩
    · exact ⟨[(a.2, t ++ [a.1])] ++ M, by rw [List.append_assoc]⟩
theorem fst_keys {sg : List Nat} {R : List (List Nat)} {k : List Bool} (h : M14.Good sg.length R k) {p : Nat} (hp : p < R.length) : (M14.fst sg R).lookup p = some (M14.txt sg R p) := by
  have hm : p ∈ (M14.fst sg R).map (·.1) := by
    have := h.all p hp
    unfold M14.fst
    rw [M14.fstI_keys h.toSht]
    exact this
  have e := lookup_some (p := p) (L := M14.fst sg R)
  rw [decide_eq_true hm] at e
  unfold M14.txt
  obtain ⟨t, ht⟩ := Option.isSome_iff_exists.mp e
  rw [ht]
  rfl
theorem lookup_mem {p : Nat} {t : List Nat} : ∀ {L : List (Nat × List Nat)}, L.lookup p = some t → (p, t) ∈ L
  | (a, u) :: L, h => by
    rw [List.lookup_cons] at h
    cases e : p == a with
    | true =>
      rw [e] at h
      cases h
      rw [eq_of_beq e]
      exact List.mem_cons_self
    | false => rw [e] at h; exact List.mem_cons_of_mem _ (lookup_mem h)
theorem txt_ok {sg : List Nat} {R : List (List Nat)} {k : List Bool} (h : M14.Good sg.length R k) {p : Nat} (hp : p < R.length) : (M14.txt sg R p).length ≤ 40 ∧ ∀ c ∈ M14.txt sg R p, c ∈ sg := by
  have h1 := M14.fstI_ok sg R R.length _ (lookup_mem (fst_keys h hp))
  exact ⟨Nat.le_trans h1.1 h.few, h1.2⟩
/-! ### the least of some texts -/
def best (ts : List (List Nat)) : Option (List Nat) := (sortT keyLen ts)[0]?
theorem nlt_anti {x y : List Nat} (h1 : ¬ y < x) (h2 : ¬ x < y) : x = y := List.le_antisymm (List.not_lt.mp h1) (List.not_lt.mp h2)
theorem best_of {ts : List (List Nat)} {m : List Nat} (h1 : m ∈ ts) (h2 : ∀ y ∈ ts, ¬ kLt (keyLen y) (keyLen m)) : best ts = some m := by
  unfold best
  cases e : (sortT keyLen ts)[0]? with
  | none =>
    have hl := List.getElem?_eq_none_iff.mp e
    rw [(sortT_perm keyLen ts).length_eq] at hl
    cases ts with
    | nil => cases h1
    | cons a l => rw [List.length_cons] at hl; omega
  | some x =>
    obtain ⟨h3, h4⟩ := sortT_head e
    have a := h2 x h3
    have b := h4 m h1
    have l1 : x.length = m.length := by
      have n1 : ¬ (x.length : Int) < m.length := fun z => a (.inl z)
      have n2 : ¬ (m.length : Int) < x.length := fun z => b (.inl z)
      omega
    rw [nlt_anti (x := x) (y := m) (fun z => b (.inr ⟨by show (m.length : Int) = x.length; omega, z⟩)) (fun z => a (.inr ⟨by show (x.length : Int) = m.length; omega, z⟩))]
theorem best_nil : best [] = none := by unfold best sortT; simp
def bestV (ts : List (List Nat)) : V := match best ts with
  | some m => tx m
  | none => .non
def bestD (ts : List (List Nat)) : PyData := match best ts with
  | some m => .str (tS m)
  | none => .none
theorem dp_best {K : PySem.W.Frag} {H : Hp} (ts : List (List Nat)) : Dp K H (bestV ts) (bestD ts) := by
  unfold bestV bestD
  cases best ts with
  | none => exact .non
  | some m => exact .str _
def takenT (sg : List Nat) (R : List (List Nat)) (k : List Bool) (n : Nat) : List (List Nat) := ((List.range n).filter (M14.kAt k)).map (M14.txt sg R)
theorem takenT_succ (sg : List Nat) (R : List (List Nat)) (k : List Bool) (n : Nat) : takenT sg R k (n + 1) = if M14.kAt k n = true then takenT sg R k n ++ [M14.txt sg R n] else takenT sg R k n := by
  unfold takenT
  rw [List.range_succ, List.filter_append, List.map_append]
  by_cases h : M14.kAt k n = true
  · rw [if_pos h]; simp [h]
  · rw [if_neg h]; simp [h]
theorem takenT_len (sg : List Nat) (R : List (List Nat)) (k : List Bool) (n : Nat) : (takenT sg R k n).length ≤ n := by
  unfold takenT
  rw [List.length_map]
  exact Nat.le_trans (List.length_filter_le _ _) (by rw [List.length_range]; exact Nat.le_refl _)
theorem takenT_mem {sg : List Nat} {R : List (List Nat)} {k : List Bool} {n : Nat} {t : List Nat} (h : t ∈ takenT sg R k n) : ∃ p, p < n ∧ t = M14.txt sg R p := by
  unfold takenT at h
  obtain ⟨p, hp, rfl⟩ := List.mem_map.mp h
  exact ⟨p, List.mem_range.mp (List.mem_filter.mp hp).1, rfl⟩
section
variable {P : Program} {w : World} {K : PySem.W.Frag} {mg : Str → Option Value} {base : Heap}
/-! ### first_texts -/
def spFirsts (K : PySem.W.Frag) (C : Addr) : Sp := fun vs H Q _ => ∃ a sg R k, vs = [.ref a] ∧ Mach C K H a sg R k ∧ ∀ H' d, Same H H' → H d = none → H' d = some (.dK (kvF (M14.fst sg R))) → Q (.ref d) H'
end
end Lw

namespace Lw
open PySem PySem.Spec PyProof.Rows L3
open L2 hiding del del_same del_ne
section
variable {P : Program} {w : World} {K : PySem.W.Frag} {mg : Str → Option Value} {base : Heap}
/-! ### Machine.goal, goes, takes -/
def spTakes (K : PySem.W.Frag) (C : Addr) : Sp := fun vs H Q _ => ∃ (a : Addr) (t sg : List Nat) (R : List (List Nat)) (k : List Bool), vs = [.ref a, tx t] ∧ Mach C K H a sg R k ∧ t.length ≤ 1000 ∧ (∀ c ∈ t, c ∈ sg) ∧ ∀ H', Same H H' → Q (.bl (M14.kAt k (M14.led sg R 0 t))) H'
theorem ok_Machine_takes (T : All K mg) : FnOk P w K mg base CX0 3 T.f_Machine_takes T.d_Machine_takes ["self", "text"] (spTakes K T.C_Machine) := by
  refine T.Machine_takes.F.ok sc_Machine_takes (fun vs H Q E h => ?_) (fun cdv A outer s H vs Q E hr h => ?_)
  · obtain ⟨a, t, sg, R, k, rfl, _⟩ := h
    rfl
  · obtain ⟨a, t, sg, R, k, rfl, hM, hz, ht, q⟩ := h
    obtain ⟨dx, r, qq, hat, hr1, hk1⟩ := hM.at_
    refine ⟨_, pss_cons (ps_expr (pe_call (ok_want_text T) (hr.mono (by decide)) (by rfl) T.want_text.g T.want_text.F.kp T.want_text.b .nil pass0 (pa_cons (pe_fld (pv 0) rfl) (pa_cons (pv 1) pa_nil))))
      (pss_one (ps_ret (pe_call (ok_is_taken T) (hr.mono (by decide)) (by rfl) T.is_taken.g T.is_taken.F.kp T.is_taken.b .nil pass0 (pa_cons (pv 0) (pa_cons (pv 1) pa_nil))))), ?_⟩
    refine ⟨_, rfl, a, T.C_Machine, dx, _, _, rfl, hat, T.cl_Machine, T.n_Machine_own_letters, rfl, _, rfl, sg, t, rfl, hz, ht, fun H1 s1 => ?_⟩
    exact ⟨_, rfl, _, rfl, a, t, sg, R, k, rfl, hM.same s1, ht, q _ s1⟩
/-! ### Machine.first_text -/
/-! ### Machine.at, numbered -/
/-! ### Machine.__contains__ -/
end
end Lw

namespace Lw
open PySem PySem.Spec PyProof.Rows L3
open L2 hiding del del_same del_ne
theorem shownLen {d : PyData} {w k : Nat} (h : Wt d w k) : d.shown.length ≤ 12 * w + 10 := by
  have h1 := PyData.shown_le 10 (by decide) d h.l
  have h2 := h.w
  have h3 : (10 + 2) * d.weight ≤ 12 * w := Nat.mul_le_mul_left 12 h2
  omega
theorem wt_dLR {n : Nat} {R : List (List Nat)} {k : List Bool} (h : M14.Sht n R k) (hn : n ≤ 3) : Wt (dLR R) 3760 2 := by
  refine (Wt.list (w := 93) (k := 1) (n := 40) (fun d hd => ?_) (by rw [List.length_map]; exact h.few)).mono (by decide) (by decide)
  obtain ⟨r, hr, rfl⟩ := List.mem_map.mp hd
  obtain ⟨i, hi⟩ := List.mem_iff_getElem?.mp hr
  have hlt := (List.getElem?_eq_some_iff.mp hi).1
  refine Wt.nats (n := 3) (fun c hc => ?_) (by rw [h.len r hr]; exact hn)
  have := h.val i hlt c (by rw [M14.row_get hi]; exact hc)
  have := h.few
  omega
theorem wt_dTR {n : Nat} {R : List (List Nat)} {k : List Bool} (h : M14.Sht n R k) (hn : n ≤ 3) : Wt (dTR R) 3760 2 := by
  refine (Wt.tuple (w := 93) (k := 1) (n := 40) (fun d hd => ?_) (by rw [List.length_map]; exact h.few)).mono (by decide) (by decide)
  obtain ⟨r, hr, rfl⟩ := List.mem_map.mp hd
  obtain ⟨i, hi⟩ := List.mem_iff_getElem?.mp hr
  have hlt := (List.getElem?_eq_some_iff.mp hi).1
  refine Wt.natsT (n := 3) (fun c hc => ?_) (by rw [h.len r hr]; exact hn)
  have := h.val i hlt c (by rw [M14.row_get hi]; exact hc)
  have := h.few
  omega
theorem wt_sg {sg : List Nat} (h : Lets sg) : Wt (.str (tS sg)) 3 0 := Wt.text (fun c hc => by have := h.az c hc; omega) h.few
theorem wt_kinds {n : Nat} {R : List (List Nat)} {k : List Bool} (h : M14.Sht n R k) : Wt (.list (dB k)) 40 1 := Wt.bools (by rw [h.kin]; exact h.few)
theorem wt_kindsT {n : Nat} {R : List (List Nat)} {k : List Bool} (h : M14.Sht n R k) : Wt (.tuple (dB k)) 40 1 := Wt.boolsT (by rw [h.kin]; exact h.few)
/-- how a machine is shown -/
def spk (sg : List Nat) (R : List (List Nat)) (k : List Bool) : Str :=
  ((((("Machine(" : Str) ++ reprText (tS sg)) ++ (", " : Str)) ++ (dLR R).shown) ++ (", " : Str)) ++ (PyData.list (dB k)).shown ++ (")" : Str)
theorem eqv_rows (R S : List (List Nat)) : PyData.eqv (dTR R) (dTR S) = decide (R = S) := by
  show PyData.eqvAll _ _ = _
  exact eqv_map (fun r => PyData.tuple (dN r)) (fun a b => by show PyData.eqvAll _ _ = _; exact eqv_dN a b) R S
theorem dp_bools {K : PySem.W.Frag} {H : Hp} : ∀ k : List Bool, DpAll K H (k.map V.bl) (dB k)
  | [] => .nil
  | b :: k => .cons (.bl b) (dp_bools k)
section
variable {P : Program} {w : World} {K : PySem.W.Frag} {mg : Str → Option Value} {base : Heap}
theorem ty_mach (T : All K mg) {H : Hp} {a : Addr} {sg : List Nat} {R : List (List Nat)} {k : List Bool} (h : Mach T.C_Machine K H a sg R k) : TyX K H (.ref a) (.ref T.C_Machine) := by
  obtain ⟨dx, r, qq, hat, _⟩ := h.at_
  exact .base (.ins hat T.cl_Machine T.ca_Machine T.cg_Machine T.ct_Machine (mro_obj T.mk_Machine))
theorem kit_own (T : All K mg) : PySem.W.kitOne K (.ref T.C_Machine) (.ref T.C_Machine) = some true := if_pos (beq_self_eq_true _)
theorem kit_plain (T : All K mg) {ty : String} (h : plainTy ty = true) : PySem.W.kitOne K (.type ty) (.ref T.C_Machine) = some false := by
  unfold PySem.W.kitOne
  rw [if_neg (by simp)]
  unfold PySem.W.kitCls
  obtain ⟨cd, hc, _⟩ := PySem.W.any_some T.cl_Machine.hd
  have e : ((PySem.W.clsIn K T.C_Machine).isSome && PySem.W.typeIn K (.ref T.C_Machine) == some (.type "type")) = true := by
    rw [hc, T.tt_Machine]
    simp
  simp only []
  rw [if_pos e]
  exact sub_plain h
/-! ### Machine.first_taken -/
/-! ### Machine.__eq__ -/
def spEqM (K : PySem.W.Frag) (C : Addr) : Sp := fun vs H Q _ => ∃ (a : Addr) (v : V) (sg : List Nat) (R : List (List Nat)) (k : List Bool), vs = [.ref a, v] ∧ Mach C K H a sg R k ∧
  ((∃ (b : Addr) (sg' : List Nat) (R' : List (List Nat)) (k' : List Bool), v = .ref b ∧ Mach C K H b sg' R' k' ∧ Q (.bl (decide (sg = sg') && (decide (R = R') && decide (k = k')))) H) ∨ ∃ ty, TyX K H v (.type ty) ∧ plainTy ty = true ∧ Q (.bl false) H)
theorem ok_Machine_eq (T : All K mg) : FnOk P w K mg base CX0 1 T.f_Machine_eq T.d_Machine_eq ["self", "other"] (spEqM K T.C_Machine) := by
  refine T.Machine_eq.F.ok sc_Machine_eq (fun vs H Q E h => ?_) (fun cdv A outer s H vs Q E hr h => ?_)
  · obtain ⟨a, v, sg, R, k, rfl, _⟩ := h
    rfl
  · obtain ⟨a, v, sg, R, k, rfl, hM, hh⟩ := h
    obtain ⟨dx, r, qq, hat, hr1, hk1⟩ := hM.at_
    refine ⟨_, pss_cons (ps_if (PW.pt (pw_or (pt_not (pt_val (pe_callB call_isi (by rfl) T.b_isinstance boot_isinstance (pa_cons (pv 1) (pa_cons (pe_glob (v := .ref T.C_Machine) rfl T.g_Machine rfl) pa_nil))))) (pw_or1 (pt_cmpR op_ne (pe_fld (pv 0) rfl) (pe_fld (pv 1) rfl) (nomark _))))) (pss_one (ps_ret pe_bl)) pss_nil)
      (pss_one (ps_ret (pe_and (pe_cmpR (op_eqD (u64 hr)) (pe_fld (pv 0) rfl) (pe_fld (pv 1) rfl) (by rfl))
        (pe_one (pe_cmpR (op_eqD (u64 hr)) (pe_fld (pv 0) rfl) (pe_fld (pv 1) rfl) (by rfl)))))), ?_⟩
    rcases hh with ⟨b, sg', R', k', rfl, hM', q⟩ | ⟨ty, hty, hp, q⟩
    · obtain ⟨dx', r', qq', hat', hr1', hk1'⟩ := hM'.at_
      refine ⟨_, rfl, _, .ref T.C_Machine, .ref T.C_Machine, .ref T.C_Machine, true, rfl, .own _, ty_mach T hM', kit_own T, true, rfl, iteF ?_⟩
      refine ⟨_, rfl, a, T.C_Machine, dx, _, _, rfl, hat, T.cl_Machine, T.n_Machine_own_letters, rfl, _, rfl, b, T.C_Machine, dx', _, _, rfl, hat', T.cl_Machine, T.n_Machine_own_letters, rfl, rfl, _, rfl, ?_⟩
      rw [tx_dec]
      by_cases e1 : sg = sg'
      · refine ite_f (by simp [e1]) ?_
        refine ⟨_, rfl, a, T.C_Machine, dx, _, _, rfl, hat, T.cl_Machine, T.n_Machine_own_rows, rfl, _, rfl, b, T.C_Machine, dx', _, _, rfl, hat', T.cl_Machine, T.n_Machine_own_rows, rfl, _, _, hr1, hr1', (wt_dTR hM.good.toSht hM.lets.few).shaped (by decide), (wt_dTR hM'.good.toSht hM'.lets.few).shaped (by decide), _, rfl, ?_⟩
        rw [eqv_rows]
        rw [decide_eq_true e1, Bool.true_and] at q
        by_cases e2 : R = R'
        · refine ite_t (decide_eq_true e2) ?_
          refine ⟨_, rfl, a, T.C_Machine, dx, _, _, rfl, hat, T.cl_Machine, T.n_Machine_own_kinds, rfl, _, rfl, b, T.C_Machine, dx', _, _, rfl, hat', T.cl_Machine, T.n_Machine_own_kinds, rfl, .tuple (dB k), .tuple (dB k'), .tup hk1 (dp_bools k), .tup hk1' (dp_bools k'), (wt_kindsT hM.good.toSht).shaped (by decide), (wt_kindsT hM'.good.toSht).shaped (by decide), ?_⟩
          rw [decide_eq_true e2, Bool.true_and] at q
          have e : PyData.eqv (.tuple (dB k)) (.tuple (dB k')) = decide (k = k') := by show PyData.eqvAll _ _ = _; exact eqv_dB k k'
          rw [e]
          exact q
        · refine ite_f (decide_eq_false e2) ?_
          rw [decide_eq_false e2, Bool.false_and] at q
          exact q
      · refine ite_t (by simp [e1]) ?_
        rw [decide_eq_false e1, Bool.false_and] at q
        exact q
    · refine ⟨_, rfl, v, .ref T.C_Machine, .type ty, .ref T.C_Machine, false, rfl, .own _, hty, kit_plain T hp, false, rfl, iteT q⟩
/-! ### Machine.__repr__ -/
def spRepr (K : PySem.W.Frag) (C : Addr) : Sp := fun vs H Q _ => ∃ (a : Addr) (sg : List Nat) (R : List (List Nat)) (k : List Bool), vs = [.ref a] ∧ Mach C K H a sg R k ∧ ∀ H', Same H H' → Q (.str (spk sg R k)) H'
theorem ok_Machine_repr (T : All K mg) : FnOkH P w K mg base CX0 2 T.f_Machine_repr T.d_Machine_repr ["self"] (spRepr K T.C_Machine) := by
  refine okH T.Machine_repr.F sc_Machine_repr (fun vs H Q E h => ?_) (fun cdv A outer s H vs Q E g hr hG hgo h => ?_)
  · obtain ⟨a, sg, R, k, rfl, _⟩ := h
    rfl
  · obtain ⟨a, sg, R, k, rfl, hM, q⟩ := h
    obtain ⟨dx, r, qq, hat, hr1, hk1⟩ := hM.at_
    have l1 : (reprText (tS sg)).length ≤ 46 := shownLen (wt_sg hM.lets)
    have l2 := shownLen (wt_dLR hM.good.toSht hM.lets.few)
    have l3 := shownLen (wt_kinds hM.good.toSht)
    have c1 : ("Machine(" : Str).length = 8 := by decide +kernel
    have c2 : (", " : Str).length = 2 := by decide +kernel
    have c3 : (")" : Str).length = 1 := by decide +kernel
    have c0 : Str.empty.length = 0 := rfl
    refine ⟨_, pss_one (ps_ret (pe_joined (PJ.cons pe_str (PJ.cons (pe_fmtR (pe_fld (pv 0) rfl)) (PJ.cons pe_str (PJ.cons (pe_fmtRH hr hG (pe_meth0 (pv 0) T.cl_Machine T.Machine_rows.m (ok_Machine_rows T) (hr.mono (by decide)) T.Machine_rows.b .nil pass0)) (PJ.cons pe_str (PJ.cons (pe_fmtRH hr hG (pe_meth0 (pv 0) T.cl_Machine T.Machine_kinds.m (ok_Machine_kinds T) (hr.mono (by decide)) T.Machine_kinds.b .nil pass0)) (PJ.cons pe_str PJ.nil))))))))), ?_⟩
    have z : ∀ n, n ≤ 100000 → n ≤ sizeLine := fun n h => sz h
    refine ⟨_, rfl, z _ (by rw [strLen_append]; omega), ?_⟩
    refine ⟨_, rfl, a, T.C_Machine, dx, _, _, rfl, hat, T.cl_Machine, T.n_Machine_own_letters, rfl, .inl ⟨_, rfl, z _ (by omega), _, rfl, z _ (by rw [strLen_append, strLen_append]; omega), ?_⟩⟩
    refine ⟨_, rfl, z _ (by rw [strLen_append, strLen_append, strLen_append]; omega), ?_⟩
    refine ⟨_, rfl, a, dx, _, rfl, hat, rfl, a, sg, R, k, rfl, hM, fun H1 p1 s1 n1 hnew => ?_⟩
    have sh1 := (wt_dLR hM.good.toSht hM.lets.few).shw (by decide) (by decide)
    have eR : ∃ e es, dLR R = .list (e :: es) := by
      have := hM.good.ne
      cases R with
      | nil => exact absurd this (by simp)
      | cons r0 R0 => exact ⟨_, _, rfl⟩
    refine ⟨p1, dLR R, rfl, hnew.dp, eR, hgo.same s1, sh1.s, sh1.z, sh1.p, _, rfl, z _ (by rw [strLen_append, strLen_append, strLen_append, strLen_append]; omega), ?_⟩
    refine ⟨_, rfl, z _ (by rw [strLen_append, strLen_append, strLen_append, strLen_append, strLen_append]; omega), ?_⟩
    refine ⟨_, rfl, a, dx, _, rfl, s1 _ _ hat, rfl, a, sg, R, k, rfl, hM.same s1, fun p2 n2 => ?_⟩
    have sh2 := (wt_kinds hM.good.toSht).shw (by decide) (by decide)
    have eK : ∃ e es, PyData.list (dB k) = .list (e :: es) := by
      have h1 := hM.good.kin
      have h2 := hM.good.ne
      cases k with
      | nil => rw [← h1] at h2; exact absurd h2 (by simp)
      | cons k0 kr => exact ⟨_, _, rfl⟩
    refine ⟨p2, .list (dB k), rfl, .lst (.inl (.inl upd_same)) (dp_bools k), eK, (hgo.same s1).same (same_upd n2), sh2.s, sh2.z, sh2.p, _, rfl, z _ (by rw [strLen_append, strLen_append, strLen_append, strLen_append, strLen_append, strLen_append]; omega), ?_⟩
    refine ⟨_, rfl, z _ (by rw [strLen_append, strLen_append, strLen_append, strLen_append, strLen_append, strLen_append, strLen_append]; omega), ?_⟩
    have := q _ (same_up (o := .lst (k.map V.bl)) s1 (s1.free n2))
    unfold spk at this
    rw [← Str.empty_append ("Machine(" : Str)] at this
    exact this
end
end Lw

namespace Lw
open PySem PySem.Spec PyProof.Rows L3
open L2 hiding del del_same del_ne
/-- all but lists stays -/
def NL (H H' : Hp) : Prop := ∀ p o, H p = some o → (∀ xs, o ≠ .lst xs) → H' p = some o
theorem NL.same {H H' : Hp} (s : Same H H') : NL H H' := fun p o e _ => s p o e
theorem NL.trans {H H1 H2 : Hp} (a : NL H H1) (b : NL H1 H2) : NL H H2 := fun p o e n => b p o (a p o e n) n
theorem NL.upd {H : Hp} {p : Addr} {xs : List V} {o : HO} (h : H p = some (.lst xs)) : NL H (L2.upd H p o) := fun b u e n => by
  rw [upd_ne (ne_of e h fun z => n xs z)]; exact e
theorem sqT_nl {K : PySem.W.Frag} {H H' : Hp} {a : Addr} {xs : List V} (h : SqT K H a xs) (n : NL H H') : SqT K H' a xs := by
  rcases h with (h | ⟨o, h⟩) | h
  · exact .inl (.inl (n _ _ h (fun ps z => by cases z)))
  · exact .inl (.inr ⟨o, n _ _ h (fun ps z => by cases z)⟩)
  · exact .inr h
theorem dTR_nl {K : PySem.W.Frag} {H H' : Hp} {v : V} {R : List (List Nat)} (h : Dp K H v (dTR R)) (n : NL H H') : Dp K H' v (dTR R) := by
  obtain ⟨a, xs, rfl, hS, hA⟩ := dp_tuple h
  refine .tup (sqT_nl hS n) (dpAll_of (dpAll_len hA) fun i x d h1 h2 => ?_)
  obtain ⟨d', h3, h4⟩ := dpAll_back hA h1
  rw [h2] at h3
  cases h3
  rw [List.getElem?_map] at h2
  obtain ⟨r, _, rfl⟩ := Option.map_eq_some_iff.mp h2
  obtain ⟨b, ys, rfl, hS2, hA2⟩ := dp_tuple h4
  rw [dpAll_nats hA2] at hS2
  exact .tup (sqT_nl hS2 n) (dpAll_nV r)
theorem Mach.nl {C : Addr} {K : PySem.W.Frag} {H H' : Hp} {a : Addr} {sg : List Nat} {R : List (List Nat)} {k : List Bool} (h : Mach C K H a sg R k) (e : NL H H') : Mach C K H' a sg R k := by
  obtain ⟨⟨dx, r, q, h1, h2, h3⟩, h4, h5⟩ := h
  exact ⟨⟨dx, r, q, e _ _ h1 (fun ps z => by cases z), dTR_nl h2 e, sqT_nl h3 e⟩, h4, h5⟩
theorem make_ok {K : PySem.W.Frag} {C : Addr} {H : Hp} {sg : List Nat} {a b : V} {R : List (List Nat)} {k : List Bool} (hl : Lets sg) (hR : Rw K H a R) (hk : Sq K H b (k.map V.bl)) (hG : M14.Good sg.length R k) {x dx : Addr} (nx : H x = none) (ndx : H dx = none) {Qh : Hp → Prop} (q : ∀ H', Same H H' → Mach C K H' x sg R k → Qh H') :
    spInit K C [.ref x, tx sg, a, b] (L2.upd (L2.upd H dx (.own x)) x (.ins C dx [])) (fun v H2 => v = .non ∧ Qh H2) E0 := by
  have sU : Same H (L2.upd (L2.upd H dx (.own x)) x (.ins C dx [])) := same_up (same_upd ndx) nx
  exact ⟨x, dx, sg, a, b, R, k, rfl, upd_same, hl, hR.same sU, hk.same sU, hG, fun H' hk' hM' => ⟨rfl, q H' (Same.made nx ndx hk') hM'⟩⟩
theorem good_k {n : Nat} {R : List (List Nat)} {k k' : List Bool} (h : M14.Good n R k) (e : k'.length = k.length) : M14.Good n R k' := ⟨⟨h.ne, h.few, h.len, h.val, by rw [e]; exact h.kin⟩, h.all⟩
theorem any_id_rep (n : Nat) : (List.replicate n false).any id = false := by
  induction n with
  | zero => rfl
  | succ n ih => rw [List.replicate_succ, List.any_cons, ih]; rfl
end Lw
namespace Lw
open PySem PySem.Spec PyProof.Rows L3
open L2 hiding del del_same del_ne
section
variable {P : Program} {w : World} {K : PySem.W.Frag} {mg : Str → Option Value} {base : Heap}
/-! ### is_count -/
def spIsCount : Sp := fun vs H Q _ => ∃ n : Nat, vs = [.int (n : Int)] ∧ Q (.bl true) H
theorem ok_is_count (T : All K mg) : FnOk P w K mg base CX0 2 T.f_is_count T.d_is_count ["value"] spIsCount := by
  refine T.is_count.F.ok sc_is_count (fun vs H Q E h => ?_) (fun cdv A outer s H vs Q E hr h => ?_)
  · obtain ⟨n, rfl, _⟩ := h
    rfl
  · obtain ⟨n, rfl, q⟩ := h
    refine ⟨_, pss_one (ps_ret (pe_and (pe_call (ok_is_integer T) (hr.mono (by decide)) (by rfl) T.is_integer.g T.is_integer.F.kp T.is_integer.b .nil pass0 (pa_cons (pv 0) pa_nil))
        (pe_one (pe_cmpR op_ge (pv 0) pe_int (by rfl))))), ?_⟩
    refine ⟨_, rfl, _, rfl, true, rfl, iteT ⟨_, rfl, _, _, rfl, rfl, ?_⟩⟩
    have e : decide ((0 : Int) ≤ (n : Int)) = true := decide_eq_true (by omega)
    show Q (.bl (decide ((0 : Int) ≤ (n : Int)))) H
    rw [e]; exact q
/-! ### lists_of -/
/-- a new list of new lists, no two the same -/
def NewRows2 (H H' : Hp) (p : Addr) (R : List (List Nat)) : Prop := ∃ xs, H' p = some (.lst xs) ∧ xs.length = R.length ∧ xs.Nodup ∧ ∀ (i : Nat) (x : V), xs[i]? = some x → ∃ q, x = .ref q ∧ H q = none ∧ q ≠ p ∧ H' q = some (.lst (nV (M14.row R i)))
theorem NewRows2.one {H H' : Hp} {p : Addr} {R : List (List Nat)} (h : NewRows2 H H' p R) : NewRows H H' p R := by
  obtain ⟨xs, h1, h2, _, h3⟩ := h
  exact ⟨xs, h1, h2, h3⟩
theorem NewRows2.same {H H' H2 : Hp} {p : Addr} {R : List (List Nat)} (h : NewRows2 H H' p R) (s : Same H' H2) : NewRows2 H H2 p R := by
  obtain ⟨xs, hp, hl, hn, hx⟩ := h
  refine ⟨xs, s _ _ hp, hl, hn, fun i x e => ?_⟩
  obtain ⟨q, e1, n1, n2, e2⟩ := hx i x e
  exact ⟨q, e1, n1, n2, s _ _ e2⟩
theorem NewRows2.ahead {H0 H H' : Hp} {p : Addr} {R : List (List Nat)} (h : NewRows2 H H' p R) (s : Same H0 H) : NewRows2 H0 H' p R := by
  obtain ⟨xs, hp, hl, hn, hx⟩ := h
  refine ⟨xs, hp, hl, hn, fun i x e => ?_⟩
  obtain ⟨q, e1, n1, n2, e2⟩ := hx i x e
  exact ⟨q, e1, s.free n1, n2, e2⟩
theorem nV_set (l : List Nat) (a g : Nat) : (nV l).set a (.int (g : Int)) = nV (l.set a g) := by unfold nV; rw [List.map_set]
/-- one goal is changed -/
theorem NewRows2.put {H H' : Hp} {p : Addr} {R : List (List Nat)} (h : NewRows2 H H' p R) {s : Nat} (hs : s < R.length) : ∃ xs q, H' p = some (.lst xs) ∧ xs[s]? = some (.ref q) ∧ H' q = some (.lst (nV (M14.row R s))) ∧ H q = none ∧ q ≠ p ∧ ∀ a g, NewRows2 H (upd H' q (.lst (nV ((M14.row R s).set a g)))) p (M74.rd R s a g) := by
  obtain ⟨xs, hp, hl, hn, hx⟩ := h
  have hsx : s < xs.length := by omega
  obtain ⟨q, e1, n1, n2, e2⟩ := hx s _ (List.getElem?_eq_getElem hsx)
  have hq : xs[s]? = some (.ref q) := by rw [List.getElem?_eq_getElem hsx, e1]
  refine ⟨xs, q, hp, hq, e2, n1, n2, fun a g => ⟨xs, by rw [upd_ne n2.symm]; exact hp, by rw [M74.rd_len]; exact hl, hn, fun i x e => ?_⟩⟩
  by_cases hi : i = s
  · subst hi
    rw [hq] at e
    cases e
    exact ⟨q, rfl, n1, n2, by rw [upd_same, M74.rd_row hs]⟩
  · obtain ⟨q', f1, f2, f3, f4⟩ := hx i x e
    have hne : q' ≠ q := fun z => by
      subst f1
      subst z
      obtain ⟨hil, a1⟩ := List.getElem?_eq_some_iff.mp e
      obtain ⟨_, a2⟩ := List.getElem?_eq_some_iff.mp hq
      rcases Nat.lt_or_gt_of_ne hi with c | c
      · exact List.pairwise_iff_getElem.mp hn i s hil hsx c (a1.trans a2.symm)
      · exact List.pairwise_iff_getElem.mp hn s i hsx hil c (a2.trans a1.symm)
    exact ⟨q', f1, f2, f3, by rw [upd_ne hne, M74.rd_rest hi]; exact f4⟩
def spListsOf (K : PySem.W.Frag) : Sp := fun vs H Q _ => ∃ (r : Addr) (R : List (List Nat)), vs = [.ref r] ∧ Dp K H (.ref r) (dTR R) ∧ R.length ≤ 40 ∧ ∀ H' p, Same H H' → H p = none → NewRows2 H H' p R → Q (.ref p) H'
theorem ok_lists_of (T : All K mg) : FnOk P w K mg base CX0 1 T.f_lists_of T.d_lists_of ["rows"] (spListsOf K) := by
  refine T.lists_of.F.ok sc_lists_of (fun vs H Q E h => ?_) (fun cdv A outer s H vs Q E hr h => ?_)
  · obtain ⟨r, R, rfl, _⟩ := h
    rfl
  · obtain ⟨r, R, rfl, hr1, hfew, q⟩ := h
    obtain ⟨xs, hS, hl, hrow⟩ := rw_dTR hr1
    obtain ⟨_, _, e', hST, _⟩ := dp_tuple hr1
    cases e'
    obtain ⟨ra, ys, e2, hST, hAll⟩ := dp_tuple hr1
    cases e2
    have hyl : ys.length = R.length := by rw [dpAll_len hAll, List.length_map]
    refine ⟨_, pss_one (ps_ret (pe_lc (own := [("row", 1)]) (g := gName 1) (tt := tYes) rfl sc_lists_of.nd (pi_tup (pv 0))
          (blkOk_by (own := [("row", 1)]) (N := ["rows", "row"]) (sc := defScope s_lists_of) (by decide +kernel))
          (fun _ _ _ _ _ => pg_name (i := 1) sc_lists_of.nd rfl (by first | exact Or.inl rfl | exact Or.inr rfl)) (fun _ _ _ _ _ => pts_nil)
          (fun _ _ _ _ _ => (pe_callTy (call_list_ofK (K := K) rfl) (by rfl) T.b_list PyProof.Rows.boot_list (pa_cons (pv 1) pa_nil))))), ?_⟩
    refine ⟨_, rfl, r, rfl, ⟨_, hST⟩, fun D nD => ?_⟩
    refine lc_dp (walk_tup (xs := ys)) (fun i acc H' => Same H H' ∧ acc.length = i ∧ acc.Nodup ∧ ∀ (j : Nat) (x : V), acc[j]? = some x → ∃ q, x = .ref q ∧ H q = none ∧ q ≠ D ∧ H' q = some (.lst (nV (M14.row R j)))) (sz (by omega)) (fun i acc H' p => Nat.le_of_eq p.2.1) nD ⟨Same.refl _, rfl, List.nodup_nil, fun j x e => by simp at e⟩ (fun i acc H' p _ => sqT_same hST (p.1.trans (del_same _ _))) (fun i y Hh H' acc C N hi p hD yy c n => ?_) (fun H5 xs' hD5 p => ?_)
    · obtain ⟨rfl, hy⟩ := yy
      obtain ⟨sm, hlen, hnod, hacc⟩ := p
      obtain ⟨d, hd, hdp⟩ := dpAll_back hAll hy
      rw [List.getElem?_map] at hd
      obtain ⟨rr, hr2, rfl⟩ := Option.map_eq_some_iff.mp hd
      obtain ⟨pa, zs, rfl, hS2, hA2⟩ := dp_tuple hdp
      rw [dpAll_nats hA2] at hS2
      have sH := sm.trans (del_same _ _)
      refine ⟨rfl, yes_te ⟨_, rfl, pa, nV rr, rfl, .inr (sqT_same hS2 sH), fun l nl => ?_⟩⟩
      have nlD : l ≠ D := fun e => by rw [e, hD] at nl; cases nl
      refine c _ _ (by rw [upd_ne nlD.symm]; exact hD) ⟨same_del (same_up sH (sH.free nl)) nD, by rw [List.length_append, hlen]; rfl, ?_, fun j x e => ?_⟩
      · rw [List.nodup_append]
        refine ⟨hnod, by simp, fun x hx y hy z => ?_⟩
        rw [List.mem_singleton] at hy
        subst hy
        subst z
        obtain ⟨jj, hjj⟩ := List.mem_iff_getElem?.mp hx
        obtain ⟨q1, e1, n1, n2, e2⟩ := hacc jj _ hjj
        cases e1
        rw [del_ne n2] at e2
        rw [e2] at nl
        cases nl
      by_cases hj : j < acc.length
      · rw [List.getElem?_append_left hj] at e
        obtain ⟨q1, e1, n1, n2, e2⟩ := hacc j x e
        refine ⟨q1, e1, n1, n2, ?_⟩
        rw [del_ne n2] at e2
        rw [del_ne n2, upd_ne (ne_of_none e2 nl)]
        exact e2
      · have hj2 : j = i := by
          have := (List.getElem?_eq_some_iff.mp e).1
          rw [List.length_append, List.length_singleton] at this
          omega
        subst hj2
        rw [List.getElem?_append_right (by omega), hlen, Nat.sub_self] at e
        cases e
        exact ⟨l, rfl, sH.free nl, nlD, by rw [del_ne nlD, upd_same, M14.row_get hr2]⟩
    · obtain ⟨sm, hlen, hnod, hacc⟩ := p
      refine q _ D (sm.trans (del_same _ _)) nD ⟨xs', hD5, by rw [hlen, hyl], hnod, fun i x e => ?_⟩
      obtain ⟨q1, e1, n1, n2, e2⟩ := hacc i x e
      exact ⟨q1, e1, n1, n2, del_same _ _ _ _ e2⟩
/-! ### contrary, ~ -/
/-- a new machine -/
def NewM (K : PySem.W.Frag) (C : Addr) (H : Hp) (Q : VK) (sg : List Nat) (R : List (List Nat)) (k : List Bool) : Prop := ∀ H' x, Same H H' → H x = none → Mach C K H' x sg R k → Q (.ref x) H'
def spContrary (K : PySem.W.Frag) (C : Addr) : Sp := fun vs H Q _ => ∃ (a : Addr) (sg : List Nat) (R : List (List Nat)) (k : List Bool), vs = [.ref a] ∧ Mach C K H a sg R k ∧ NewM K C H Q sg R (k.map not)
theorem ok_contrary (T : All K mg) : FnOk P w K mg base CX0 6 T.f_contrary T.d_contrary ["machine"] (spContrary K T.C_Machine) := by
  refine T.contrary.F.ok sc_contrary (fun vs H Q E h => ?_) (fun cdv A outer s H vs Q E hr h => ?_)
  · obtain ⟨a, sg, R, k, rfl, _⟩ := h
    rfl
  · obtain ⟨a, sg, R, k, rfl, hM, q⟩ := h
    obtain ⟨dx, r, qq, hat, hr1, hk1⟩ := hM.at_
    have hGd := hM.good
    have hfew := hGd.few
    have hkin := hGd.kin
    have hrow := rw_dTR hr1
    refine ⟨_, pss_one (ps_ret (pe_make ⟨T.mk_Machine, T.Machine_init.m.at_, T.Machine_init.m.fn, T.kp_Machine⟩ (ok_Machine_init T) (hr.mono (by decide)) (by rfl) T.g_Machine T.Machine_init.b .nil pass0 (pa_cons (pe_fld (pv 0) rfl) (pa_cons (pe_fld (pv 0) rfl) (pa_cons (pe_lc (own := [("kind", 1)]) (g := gName 1) (tt := tYes) rfl sc_contrary.nd (pi_tup (pe_fld (pv 0) rfl))
          (blkOk_by (own := [("kind", 1)]) (N := ["machine", "kind"]) (sc := defScope s_contrary) (by decide +kernel))
          (fun _ _ _ _ _ => pg_name (i := 1) sc_contrary.nd rfl (by first | exact Or.inl rfl | exact Or.inr rfl)) (fun _ _ _ _ _ => pts_nil)
          (fun _ _ _ _ _ => (pe_not (pv 1)))) pa_nil))))), ?_⟩
    refine ⟨_, rfl, a, T.C_Machine, dx, _, _, rfl, hat, T.cl_Machine, T.n_Machine_own_letters, rfl, _, rfl, a, T.C_Machine, dx, _, _, rfl, hat, T.cl_Machine, T.n_Machine_own_rows, rfl, ?_⟩
    refine ⟨_, rfl, a, T.C_Machine, dx, _, _, rfl, hat, T.cl_Machine, T.n_Machine_own_kinds, rfl, qq, rfl, ⟨_, hk1⟩, fun D nD => ?_⟩
    refine lc_gen (walk_tup (xs := k.map V.bl)) (Same H) (fun i acc => acc = ((k.take i).map (!·)).map V.bl) (sz (by rw [List.length_map]; omega)) (fun i acc e => by rw [e, List.length_map, List.length_map, List.length_take]; omega) rfl (same_upd nD) (fun _ _ h => same_up h nD) (fun _ h => sqT_same hk1 h) (fun i x H1 H2 acc C N hi rs hD ha y c nn => ?_) (fun H1 ys s1 hD ha => ?_)
    · obtain ⟨rfl, y⟩ := y
      rw [List.getElem?_map] at y
      obtain ⟨kb, hkb, rfl⟩ := Option.map_eq_some_iff.mp y
      refine ⟨rfl, yes_te ⟨_, rfl, _, rfl, c _ _ rs hD ?_⟩⟩
      rw [ha, List.take_add_one, hkb, List.map_append, List.map_append]
      rfl
    subst ha
    rw [List.length_map, List.take_length] at hD
    intro m1 dx_m1 n_m1 nd_m1 _
    refine make_ok (k := k.map not) hM.lets (hrow.same s1) (sq_list (.inl (.inl hD))) (good_k hGd (by rw [List.length_map])) n_m1 nd_m1 (fun H2 s2 hM1 => ?_)
    exact q _ _ (s1.trans s2) (s1.free n_m1) hM1
theorem ok_Machine_invert (T : All K mg) : FnOk P w K mg base CX0 7 T.f_Machine_invert T.d_Machine_invert ["self"] (spContrary K T.C_Machine) := by
  refine T.Machine_invert.F.ok sc_Machine_invert (fun vs H Q E h => ?_) (fun cdv A outer s H vs Q E hr h => ?_)
  · obtain ⟨a, sg, R, k, rfl, _⟩ := h
    rfl
  · obtain ⟨a, sg, R, k, rfl, hM, q⟩ := h
    refine ⟨_, pss_one (ps_ret (pe_call (ok_contrary T) (hr.mono (by decide)) (by rfl) T.contrary.g T.contrary.F.kp T.contrary.b .nil pass0 (pa_cons (pv 0) pa_nil))), ?_⟩
    exact ⟨_, rfl, a, sg, R, k, rfl, hM, q⟩
/-! ### want_listed -/
def spWantListed (K : PySem.W.Frag) (C : Addr) : Sp := fun vs H Q _ => ∃ (a : Addr) (v : V) (S : List Nat) (sg : List Nat) (R : List (List Nat)) (k : List Bool), vs = [.ref a, v] ∧ Mach C K H a sg R k ∧ Sq K H v (nV S) ∧ S.Nodup ∧ (∀ p ∈ S, p < R.length) ∧ ∀ H', Same H H' → Q .non H'
theorem ok_want_listed (T : All K mg) : FnOk P w K mg base CX0 3 T.f_want_listed T.d_want_listed ["machine", "places"] (spWantListed K T.C_Machine) := by
  refine T.want_listed.F.ok sc_want_listed (fun vs H Q E h => ?_) (fun cdv A outer s H vs Q E hr h => ?_)
  · obtain ⟨a, v, S, sg, R, k, rfl, _⟩ := h
    rfl
  · obtain ⟨a, v, S, sg, R, k, rfl, hM, hS, hnd, hlt, q⟩ := h
    obtain ⟨dx, r, qq, hat, hr1, hk1⟩ := hM.at_
    refine ⟨_, pss_cons (ps_if (pt_not (pt_val (pe_call (ok_is_list T) (hr.mono (by decide)) (by rfl) T.is_list.g T.is_list.F.kp T.is_list.b .nil pass0 (pa_cons (pv 1) pa_nil)))) (pss_one ps_never) pss_nil)
      (pss_one (ps_for PassesOwn.never rfl (pi_enumS rfl T.b_enumerate (pa_cons (pv 1) pa_nil)) (pg_tup rfl (pgs_cons (pg_name (i := 2) sc_want_listed.nd rfl (by first | exact Or.inl rfl | exact Or.inr rfl)) (pgs_cons (pg_name (i := 3) sc_want_listed.nd rfl (by first | exact Or.inl rfl | exact Or.inr rfl)) pgs_nil)))
        (pss_one (ps_if (PW.pt (pw_or (pt_not (pt_val (pe_call (ok_is_count T) (hr.mono (by decide)) (by rfl) T.is_count.g T.is_count.F.kp T.is_count.b .nil pass0 (pa_cons (pv 3) pa_nil)))) (pw_or (pt_cmpR op_ge (pv 3) (pe_callB call_len_seq (by rfl) T.b_len PySem.boot_len (pa_cons (pe_fld (pv 0) rfl) pa_nil)) (nomark _)) (pw_or1 (pt_cmpR op_inN (pv 3) (pe_slice (SlR.or sl_list sl_tup) (pv 1) po_none (po_some (pv 2))) (by rfl)))))) (pss_one ps_never) pss_nil)))), ?_⟩
    refine ⟨_, rfl, v, _, rfl, hS, fun H1 s1 => ⟨true, rfl, iteF ?_⟩⟩
    obtain ⟨xs, hrS, hrl⟩ := (rw_dTR hr1).sq
    obtain ⟨y, ey, hy⟩ := sq_src hS
    refine ⟨_, rfl, y, _, congrArg (fun z => [z]) ey, hy _ s1, for_it walk_enumS (fun i σ H' => ∃ p r, σ = [some (.ref a), some v, p, r] ∧ Same H H') ⟨none, none, rfl, s1⟩ (fun i σ H' _ p => by obtain ⟨_, _, _, sm⟩ := p; exact hy _ sm) (fun i x σ H3 H4 hi p y => ?_) (fun σ H3 p => ?_)⟩
    · obtain ⟨p0, r0, rfl, sm⟩ := p
      obtain ⟨Tp, x1, x2, rfl, nT, rfl, e1, e2⟩ := y
      cases e1
      have e2 : (nV S)[i]? = some x2 := e2
      obtain ⟨n, hn, rfl⟩ := nV_inv e2
      have hnS := List.mem_of_getElem? hn
      have hnl := hlt n hnS
      rw [nV_len] at hi
      have sm2 := same_up (o := .tup [.int (i : Nat), .int (n : Nat)]) sm (sm.free nT)
      refine ⟨Tp, _, rfl, .inl (.inl upd_same), rfl, _, _, rfl, _, _, rfl, rfl, ?_⟩
      refine ⟨_, rfl, n, rfl, true, rfl, iteF ?_⟩
      refine ⟨_, rfl, _, rfl, a, T.C_Machine, dx, _, _, rfl, sm2 _ _ hat, T.cl_Machine, T.n_Machine_own_rows, rfl, r, xs, rfl, (by obtain ⟨z, e, h⟩ := hrS.same sm2; cases e; exact h), _, _, rfl, rfl, _, rfl, ite_f (decide_eq_false (by omega)) ?_⟩
      have hcut : cutV (nV S) none (some (i : Int)) = nV (S.take i) := by
        unfold cutV
        rw [HT.sIx_none, HT.sIx_nat, List.drop_zero, Nat.sub_zero, nV_len, Nat.min_eq_left (Nat.le_of_lt hi)]
        unfold nV
        rw [List.map_take]
      have hnot : decide (n ∈ S.take i) = false := decide_eq_false fun hm => by
        obtain ⟨j, hj⟩ := List.mem_iff_getElem?.mp hm
        have hj1 := (List.getElem?_eq_some_iff.mp hj).1
        rw [List.length_take] at hj1
        rw [List.getElem?_take_of_lt (by omega)] at hj
        obtain ⟨q1, q2⟩ := List.getElem?_eq_some_iff.mp hj
        obtain ⟨q3, q4⟩ := List.getElem?_eq_some_iff.mp hn
        exact List.pairwise_iff_getElem.mp hnd j i q1 q3 (by omega) (q2.trans q4.symm)
      obtain ⟨va, rfl, hSv⟩ := hS.same sm2
      refine ⟨_, rfl, _, rfl, _, rfl, (i : Int), rfl, ?_⟩
      rcases hSv with hSv | hSv
      · refine .inl ⟨va, _, rfl, hSv, fun p np => ⟨_, n, rfl, sq_list (.inl (.inl (by rw [hcut]; exact upd_same))), _, rfl, ite_f hnot ⟨_, _, rfl, same_up sm2 (sm2.free np)⟩⟩⟩
      · refine .inr ⟨va, _, rfl, hSv, fun z => ?_, fun p np => ⟨_, n, rfl, sq_tuple (.inl (.inl (by rw [hcut]; exact upd_same))), _, rfl, ite_f hnot ⟨_, _, rfl, same_up sm2 (sm2.free np)⟩⟩⟩
        rw [HT.sIx_nat, nV_len] at z
        omega
    · obtain ⟨p0, r0, rfl, sm⟩ := p
      exact q _ sm
/-! ### turned_by, turned -/
def spTurned (K : PySem.W.Frag) (C : Addr) : Sp := fun vs H Q _ => ∃ (a : Addr) (v : V) (S : List Nat) (sg : List Nat) (R : List (List Nat)) (k : List Bool), vs = [.ref a, v] ∧ Mach C K H a sg R k ∧ Sq K H v (nV S) ∧ S.Nodup ∧ (∀ p ∈ S, p < R.length) ∧ NewM K C H Q sg R (M74.tk k S)
theorem ok_turned_by (T : All K mg) : FnOk P w K mg base CX0 6 T.f_turned_by T.d_turned_by ["machine", "places"] (spTurned K T.C_Machine) := by
  refine T.turned_by.F.ok sc_turned_by (fun vs H Q E h => ?_) (fun cdv A outer s H vs Q E hr h => ?_)
  · obtain ⟨a, v, S, sg, R, k, rfl, _⟩ := h
    rfl
  · obtain ⟨a, v, S, sg, R, k, rfl, hM, hS, hnd, hlt, q⟩ := h
    obtain ⟨dx, r, qq, hat, hr1, hk1⟩ := hM.at_
    have hGd := hM.good
    have hfew := hGd.few
    have hkin := hGd.kin
    refine ⟨_, pss_cons (ps_setLc (i := 2) (own := [("place", 3), ("kind", 4)]) (tt := tYes) (by rfl) sc_turned_by.nd rfl rfl (sw_true rfl rfl rfl (by decide +kernel)) (pi_enumS rfl T.b_enumerate (pa_cons (pe_fld (pv 0) rfl) pa_nil))
          (blkOk_by (own := [("place", 3), ("kind", 4)]) (N := ["machine", "places", "kinds", "place", "kind"]) (sc := defScope s_turned_by) (by decide +kernel))
          (fun _ _ _ _ _ => (pg_tupK (K := K) (n := 2) rfl rfl (pgs_cons (pg_name (i := 3) sc_turned_by.nd rfl (Or.inl rfl)) (pgs_cons (pg_name (i := 4) sc_turned_by.nd rfl (Or.inl rfl)) pgs_nil)) rfl)) (fun _ _ _ _ _ => pts_nil)
          (fun _ _ _ _ _ => (pe_cmpR op_ne (pv 4) (pe_cmpR (op_inNK (K := K) rfl) (pv 3) (pv 1) (by rfl)) (by rfl))))
      (pss_one (ps_ret (pe_make ⟨T.mk_Machine, T.Machine_init.m.at_, T.Machine_init.m.fn, T.kp_Machine⟩ (ok_Machine_init T) (hr.mono (by decide)) (by rfl) T.g_Machine T.Machine_init.b .nil pass0 (pa_cons (pe_fld (pv 0) rfl) (pa_cons (pe_call (ok_lists_of T) (hr.mono (by decide)) (by rfl) T.lists_of.g T.lists_of.F.kp T.lists_of.b .nil pass0 (pa_cons (pe_fld (pv 0) rfl) pa_nil)) (pa_cons (pv 2) pa_nil)))))), ?_⟩
    obtain ⟨y, ey, hy⟩ := sq_src (sq_tuple hk1)
    refine ⟨_, rfl, a, T.C_Machine, dx, _, _, rfl, hat, T.cl_Machine, T.n_Machine_own_kinds, rfl, y, _, congrArg (fun z => [z]) ey, hy _ (Same.refl _), fun D nD => ?_⟩
    refine lc_gen (walk_enumS (y := y) (xs := k.map V.bl)) (Same H) (fun i acc => acc = ((List.range i).map fun j => M14.kAt k j != decide (j ∈ S)).map V.bl) (sz (by rw [List.length_map]; omega)) (fun i acc e => by rw [e, List.length_map, List.length_map, List.length_range]; exact Nat.le_refl _) rfl (same_upd nD) (fun _ _ h => same_up h nD) (fun _ h => hy _ h) (fun i x H2 H3 acc C N hi rs hD ha y c n => ?_) (fun H2 xs rs hD ha => ?_)
    · obtain ⟨Tp, v1, v2, rfl, nT, rfl, e1, e2⟩ := y
      cases e1
      have e2 : (k.map V.bl)[i]? = some v2 := e2
      rw [List.length_map] at hi
      rw [kAt_get hi] at e2
      cases e2
      have nTD : D ≠ Tp := ne_of_none hD nT
      have rs2 := same_up (o := .tup [.int (i : Nat), .bl (M14.kAt k i)]) rs (rs.free nT)
      have hD2 : (upd H2 Tp (.tup [.int (i : Nat), .bl (M14.kAt k i)])) D = some (.lst acc) := by rw [upd_ne nTD]; exact hD
      refine ⟨Tp, _, rfl, .inl (.inl upd_same), rfl, _, _, rfl, _, _, rfl, rfl, rfl, yes_te ⟨_, rfl, _, rfl, _, rfl, S, i, rfl, hS.same rs2, rfl, c _ _ rs2 hD2 ?_⟩⟩
      rw [ha, List.range_succ, List.map_append, List.map_append]
      refine congrArg (_ ++ ·) ?_
      show [V.bl (!decide (V.bl (M14.kAt k i) = V.bl (decide (i ∈ S))))] = [V.bl (M14.kAt k i != decide (i ∈ S))]
      cases M14.kAt k i <;> cases decide (i ∈ S) <;> rfl
    subst ha
    rw [List.length_map] at hD
    refine ⟨_, rfl, a, T.C_Machine, dx, _, _, rfl, rs _ _ hat, T.cl_Machine, T.n_Machine_own_letters, rfl, ?_⟩
    refine ⟨_, rfl, a, T.C_Machine, dx, _, _, rfl, rs _ _ hat, T.cl_Machine, T.n_Machine_own_rows, rfl, r, R, rfl, Dp.same rs hr1, hfew, fun H3 p3 s3 n3 hN => ?_⟩
    refine ⟨_, rfl, ?_⟩
    intro m1 dx_m1 n_m1 nd_m1 _
    refine make_ok (k := M74.tk k S) hM.lets (rw_dLR hN.one.dp) (sq_list (.inl (.inl (s3 _ _ hD)))) (M74.tk_good hGd S) n_m1 nd_m1 (fun H4 s4 hM1 => ?_)
    have s04 := rs.trans s3
    exact q _ _ (s04.trans s4) (s04.free n_m1) hM1
theorem ok_turned (T : All K mg) : FnOk P w K mg base CX0 7 T.f_turned T.d_turned ["machine", "places"] (spTurned K T.C_Machine) := by
  refine T.turned.F.ok sc_turned (fun vs H Q E h => ?_) (fun cdv A outer s H vs Q E hr h => ?_)
  · obtain ⟨a, v, S, sg, R, k, rfl, _⟩ := h
    rfl
  · obtain ⟨a, v, S, sg, R, k, rfl, hM, hS, hnd, hlt, q⟩ := h
    refine ⟨_, pss_cons (ps_expr (pe_call (ok_want_listed T) (hr.mono (by decide)) (by rfl) T.want_listed.g T.want_listed.F.kp T.want_listed.b .nil pass0 (pa_cons (pv 0) (pa_cons (pv 1) pa_nil))))
      (pss_one (ps_ret (pe_call (ok_turned_by T) (hr.mono (by decide)) (by rfl) T.turned_by.g T.turned_by.F.kp T.turned_by.b .nil pass0 (pa_cons (pv 0) (pa_cons (pv 1) pa_nil))))), ?_⟩
    refine ⟨_, rfl, _, rfl, a, v, S, sg, R, k, rfl, hM, hS, hnd, hlt, fun H1 s1 => ?_⟩
    exact ⟨_, rfl, _, rfl, a, v, S, sg, R, k, rfl, hM.same s1, hS.same s1, hnd, hlt, fun H2 x s2 nx hM2 => q _ _ (s1.trans s2) (s1.free nx) hM2⟩
end
end Lw
namespace Lw
open PySem PySem.Spec PyProof.Rows L3
open L2 hiding del del_same del_ne
section
variable {w : World} {K : PySem.W.Frag} {mg : Str → Option Value} {base : Heap}
/-! ### redirected -/
def spRedir (K : PySem.W.Frag) (C Ce : Addr) : Sp := fun vs H Q E => ∃ (a : Addr) (p c g : Nat) (sg : List Nat) (R : List (List Nat)) (k : List Bool), vs = [.ref a, .int (p : Int), tx [c], .int (g : Int)] ∧ Mach C K H a sg R k ∧ p < R.length ∧ c ∈ sg ∧ g < R.length ∧
  (M14.Good sg.length (M74.rd R p (sg.idxOf c) g) k → NewM K C H Q sg (M74.rd R p (sg.idxOf c) g) k) ∧
  ((¬ M14.Good sg.length (M74.rd R p (sg.idxOf c) g) k) → ∀ H' d, Same H H' → E (.ref Ce) (some d) H')
theorem ok_redirected (T : All K mg) : FnOk PW w K mg base (L2.CX PW w) 6 T.f_redirected T.d_redirected ["machine", "place", "letter", "goal"] (spRedir K T.C_Machine T.C_NotComeTo) := by
  refine T.redirected.F.okX sc_redirected (fun vs H Q E h => ?_) (fun cdv A outer s H vs Q E hr h => ?_)
  · obtain ⟨a, p, c, g, sg, R, k, rfl, _⟩ := h
    rfl
  · obtain ⟨a, p, c, g, sg, R, k, rfl, hM, hp, hc, hg, q, qE⟩ := h
    obtain ⟨dx, r, qq, hat, hr1, hk1⟩ := hM.at_
    have hGd := hM.good
    have hfew := hGd.few
    have hkin := hGd.kin
    have hsl := hM.lets.few
    refine ⟨_, pss_cons (ps_expr (pe_call (ok_want_place T) (hr.mono (by decide)) (by rfl) T.want_place.g T.want_place.F.kp T.want_place.b .nil pass0 (pa_cons (pv 0) (pa_cons (pv 1) pa_nil))))
      (pss_cons (ps_expr (pe_call (ok_want_letter T) (hr.mono (by decide)) (by rfl) T.want_letter.g T.want_letter.F.kp T.want_letter.b .nil pass0 (pa_cons (pe_fld (pv 0) rfl) (pa_cons (pv 2) pa_nil))))
      (pss_cons (ps_expr (pe_call (ok_want_place T) (hr.mono (by decide)) (by rfl) T.want_place.g T.want_place.F.kp T.want_place.b .nil pass0 (pa_cons (pv 0) (pa_cons (pv 3) pa_nil))))
      (pss_cons (ps_set (i := 4) sc_redirected.nd rfl (by first | exact Or.inl rfl | exact Or.inr rfl) (pe_call (ok_lists_of T) (hr.mono (by decide)) (by rfl) T.lists_of.g T.lists_of.F.kp T.lists_of.b .nil pass0 (pa_cons (pe_fld (pv 0) rfl) pa_nil)))
      (pss_cons (ps_asg (pv 3) (pg_sub (pe_ix ix_list (pv 4) (pv 1) (fun _ _ => rfl)) (pe_bm PySem.F.plainAttrs_str PySem.F.slot_str_index PySem.F.type_str_index mt_indexT (pe_fld (pv 0) rfl) (pa_cons (pv 2) pa_nil)) set_list))
      (pss_one (ps_ret (pe_make ⟨T.mk_Machine, T.Machine_init.m.at_, T.Machine_init.m.fn, T.kp_Machine⟩ (ok_Machine_initX T) (hr.mono (by decide)) (by rfl) T.g_Machine T.Machine_init.b .nil (passes_call (takes_of rfl rfl rfl rfl) (fun _ _ _ _ h => h)) (pa_cons (pe_fld (pv 0) rfl) (pa_cons (pv 4) (pa_cons (pe_callTy call_list_of (by rfl) T.b_list PyProof.Rows.boot_list (pa_cons (pe_fld (pv 0) rfl) pa_nil)) pa_nil)))))))))), ?_⟩
    refine ⟨_, rfl, _, rfl, a, p, sg, R, k, rfl, hM, hp, ?_⟩
    refine ⟨_, rfl, a, T.C_Machine, dx, _, _, rfl, hat, T.cl_Machine, T.n_Machine_own_letters, rfl, _, rfl, sg, c, rfl, hc, fun H1 s1 => ?_⟩
    refine ⟨_, rfl, _, rfl, a, g, sg, R, k, rfl, hM.same s1, hg, ?_⟩
    refine ⟨_, rfl, a, T.C_Machine, dx, _, _, rfl, s1 _ _ hat, T.cl_Machine, T.n_Machine_own_rows, rfl, r, R, rfl, Dp.same s1 hr1, hfew, fun H2 D s2 nD hN => ?_⟩
    have s02 := s1.trans s2
    obtain ⟨xs, q0, hDx, hx0, hq0, nq, nqD, hput⟩ := hN.put hp
    have nq0 := s1.free nq
    have nD0 := s1.free nD
    have hrl : (M14.row R p).length = sg.length := hGd.len _ (M14.row_mem hp)
    have hi : sg.idxOf c < sg.length := List.idxOf_lt_length_of_mem hc
    have hixn : ixN (nV (M14.row R p)).length ((sg.idxOf c : Nat) : Int) = some (sg.idxOf c) := by
      unfold ixN
      rw [if_pos (by omega), nV_len, hrl, if_pos (by omega)]
      rfl
    refine ⟨_, rfl, _, rfl, _, rfl, D, xs, ((p : Nat) : Int), .ref q0, rfl, rfl, .inl (.inl hDx), atI_nat hx0, ?_⟩
    refine ⟨_, rfl, a, T.C_Machine, dx, _, _, rfl, s02 _ _ hat, T.cl_Machine, T.n_Machine_own_letters, rfl, ?_⟩
    refine ⟨rfl, _, rfl, sg, c, rfl, rfl, hc, q0, _, _, _, rfl, rfl, hq0, hixn, ?_⟩
    rw [nV_set]
    have hN2 := hput (sg.idxOf c) g
    have s03 : Same H (upd H2 q0 (.lst (nV ((M14.row R p).set (sg.idxOf c) g)))) := same_up s02 nq0
    generalize upd H2 q0 (.lst (nV ((M14.row R p).set (sg.idxOf c) g))) = H3 at *
    refine ⟨_, rfl, a, T.C_Machine, dx, _, _, rfl, s03 _ _ hat, T.cl_Machine, T.n_Machine_own_letters, rfl, _, rfl, ?_⟩
    refine ⟨_, rfl, a, T.C_Machine, dx, _, _, rfl, s03 _ _ hat, T.cl_Machine, T.n_Machine_own_kinds, rfl, qq, _, rfl, .inr (sqT_same hk1 s03), fun l nl => ?_⟩
    have s04 := same_up (o := .lst (k.map V.bl)) s03 (s03.free nl)
    intro x dx' nx ndx _
    have sU := same_up (o := .ins T.C_Machine dx' []) (same_upd (o := .own x) ndx) nx
    have hSh := M74.rd_sht (a := sg.idxOf c) hGd.toSht hp hg
    refine ⟨x, dx', sg, _, _, _, k, rfl, upd_same, hM.lets, (rw_dLR ((hN2.same (same_upd nl)).one.dp)).same sU, (sq_list (.inl (.inl upd_same))).same sU, hSh, fun hGood H' hk' hM' => ?_, fun hno H' d sm => ?_⟩
    · have e := Same.made nx ndx hk'
      exact ⟨rfl, q hGood _ _ (s04.trans e) (s04.free nx) hM'⟩
    · exact qE (fun z => hno z.all) _ d ((s04.trans sU).trans sm)
end
end Lw
namespace Lw
open PySem PySem.Spec PyProof.Rows L3
open L2 hiding del del_same del_ne
section
variable {P : Program} {w : World} {K : PySem.W.Frag} {mg : Str → Option Value} {base : Heap}
/-- a pot: two numbers -/
def Pot (H : Hp) (a : Addr) : Prop := ∃ x y : Int, H a = some (.lst [.int x, .int y]) ∧ 0 ≤ x ∧ 0 ≤ y ∧ y < 4294967296
/-- all but a stays -/
def Off (a : Addr) (H H' : Hp) : Prop := ∀ b o, H b = some o → b ≠ a → H' b = some o
theorem Off.refl (a : Addr) (H : Hp) : Off a H H := fun _ _ e _ => e
theorem Off.trans {a : Addr} {H H1 H2 : Hp} (x : Off a H H1) (y : Off a H1 H2) : Off a H H2 := fun b o e n => y b o (x b o e n) n
theorem Off.of {a : Addr} {H H' : Hp} (s : Same H H') : Off a H H' := fun b o e _ => s b o e
theorem Off.up {a p : Addr} {H H' : Hp} {o : HO} (x : Off a H H') (h : H p = none) : Off a H (upd H' p o) := fun b u e n => by
  rw [upd_ne (ne_of_none e h)]
  exact x b u e n
theorem Off.at {a : Addr} {H H' : Hp} {o : HO} (x : Off a H H') : Off a H (upd H' a o) := fun b u e n => by
  rw [upd_ne n]
  exact x b u e n
theorem Pot.some {H : Hp} {a : Addr} (h : Pot H a) : H a ≠ none := fun e => by
  obtain ⟨x, y, h, _⟩ := h
  rw [e] at h
  cases h
theorem Off.free {a : Addr} {H H' : Hp} (x : Off a H H') {l : Addr} (h : H' l = none) (hp : Pot H' a) : H l = none := by
  cases q : H l with
  | none => rfl
  | some o =>
    by_cases e : l = a
    · subst e
      exact absurd h hp.some
    · rw [x l o q e] at h
      cases h
theorem Off.seq {K : PySem.W.Frag} {a l : Addr} {H H' : Hp} {xs : List V} (x : Off a H H') (n : l ≠ a) (h : SqL K H l xs) : SqL K H' l xs := by
  rcases h with (h | ⟨o, h⟩) | h
  · exact .inl (.inl (x _ _ h n))
  · exact .inl (.inr ⟨o, x _ _ h n⟩)
  · exact .inr h
/-! ### _law_pot -/
def spPot (K : PySem.W.Frag) : Sp := fun vs H Q _ => ∃ (a : Addr) (ns : List Int) (k : Nat), vs = [.ref a, .int (k : Int)] ∧ SqL K H a (ns.map V.int) ∧ k ≤ 10 ∧ ∀ H' p, Same H H' → H p = none → Pot H' p → Q (.ref p) H'
theorem pot_fin {H : Hp} {p : Addr} {z : Int} (x : Int) : Pot (upd H p (.lst [.int (if x > 0 then x else 0), .int (z % 2147483543 + 1)])) p := by
  refine ⟨_, _, upd_same, ?_, ?_, ?_⟩
  · split <;> omega
  · omega
  · omega
theorem ok_law_pot (T : All K mg) : FnOk P w K mg base CX0 1 T.f_law_pot T.d_law_pot ["_law_script", "_law_k"] (spPot K) := by
  refine T.law_pot.F.ok sc_law_pot (fun vs H Q E h => ?_) (fun cdv A outer s H vs Q E hr h => ?_)
  · obtain ⟨a, ns, k, rfl, _⟩ := h
    rfl
  · obtain ⟨a, ns, k, rfl, hS, hk, q⟩ := h
    refine ⟨_, pss_cons (ps_set (i := 2) sc_law_pot.nd rfl (.inl rfl) (pe_op op_add (pe_op op_mul pe_int (pv 1)) pe_int))
      (pss_cons (ps_if (pt_cmpR op_lt (pv 1) (pe_callB call_len_seq (by rfl) T.b_len PySem.boot_len (pa_cons (pv 0) pa_nil)) (nomark _))
        (pss_one (ps_set (i := 2) sc_law_pot.nd rfl (.inl rfl) (pe_callB call_abs (by rfl) T.b_abs PyProof.Rows.boot_abs (pa_cons (pe_ix ix_list (pv 0) (pv 1) (fun _ _ => rfl)) pa_nil)))) pss_nil)
      (pss_one (ps_ret (pe_lst (pa_cons (pe_callB (call_max2 rfl) (by rfl) T.b_max PyProof.Rows.boot_max (pa_cons pe_int (pa_cons (pe_op op_sub (pv 2) (pe_op op_pow pe_int pe_int)) pa_nil)))
        (pa_cons (pe_op op_add (pe_op op_mod (pe_callTy call_int1 (by rfl) T.b_int PyProof.Rows.boot_int (pa_cons (pe_op op_add (pe_op op_mul (pe_op op_mod (pe_callTy call_int1 (by rfl) T.b_int PyProof.Rows.boot_int (pa_cons (pv 2) pa_nil)) pe_int) (pe_op op_add (pe_op op_mul pe_int (pv 1)) pe_int)) pe_int) pa_nil)) pe_int) pe_int) pa_nil)))))), ?_⟩
    refine ⟨_, rfl, _, _, rfl, rfl, .inl ⟨by decide, by decide⟩, _, _, rfl, rfl, ?_⟩
    refine ⟨_, rfl, _, rfl, a, ns.map V.int, rfl, .inl hS, _, _, rfl, rfl, _, rfl, ite2 (fun e => ?_) (fun e => ?_)⟩
    · have hlt : k < ns.length := by
        have := of_decide_eq_true e
        rw [List.length_map] at this
        omega
      refine ⟨_, rfl, _, rfl, a, _, _, .int ns[k], rfl, rfl, hS, atI_nat (by rw [List.getElem?_map, List.getElem?_eq_getElem hlt]; rfl), _, rfl, ?_⟩
      refine ⟨_, rfl, 10, 18, rfl, rfl, ⟨by decide, by decide, by decide⟩, _, _, rfl, rfl, _, _, rfl, ?_⟩
      refine ⟨_, rfl, .inl ⟨_, rfl, _, _, rfl, rfl, (by show (0 : Int) < 2147483563; decide), _, rfl, _, _, rfl, rfl, .inl ⟨by decide, by decide⟩, _, _, rfl, rfl, _, _, rfl, rfl, .inr ⟨by omega, by omega⟩, _, _, rfl, rfl,
        .inl ⟨_, rfl, _, _, rfl, rfl, (by show (0 : Int) < 2147483543; decide), _, _, rfl, rfl, (by show 2 ≤ sizeLine; decide), fun p np => ?_⟩⟩⟩
      exact q _ p (same_upd np) np (pot_fin _)
    · refine ⟨_, rfl, 10, 18, rfl, rfl, ⟨by decide, by decide, by decide⟩, _, _, rfl, rfl, _, _, rfl, ?_⟩
      refine ⟨_, rfl, .inl ⟨_, rfl, _, _, rfl, rfl, (by show (0 : Int) < 2147483563; decide), _, rfl, _, _, rfl, rfl, .inl ⟨by decide, by decide⟩, _, _, rfl, rfl, _, _, rfl, rfl, .inr ⟨by omega, by omega⟩, _, _, rfl, rfl,
        .inl ⟨_, rfl, _, _, rfl, rfl, (by show (0 : Int) < 2147483543; decide), _, _, rfl, rfl, (by show 2 ≤ sizeLine; decide), fun p np => ?_⟩⟩⟩
      exact q _ p (same_upd np) np (pot_fin _)
/-! ### _law_draw -/
def spDraw : Sp := fun vs H Q _ => ∃ (a : Addr) (n : Nat), vs = [.ref a, .int (n : Int)] ∧ Pot H a ∧ 0 < n ∧ n ≤ 1000000 ∧ ∀ (H' : Hp) (d : Nat), d < n → Pot H' a → Off a H H' → Q (.int (d : Int)) H'
theorem ix2_0 {x y : V} : ixN [x, y].length (0 : Int) = some 0 := rfl
theorem ix2_1 {x y : V} : ixN [x, y].length (1 : Int) = some 1 := rfl
theorem ok_law_draw (T : All K mg) : FnOk P w K mg base CX0 1 T.f_law_draw T.d_law_draw ["_law_pot_here", "_law_size"] spDraw := by
  refine T.law_draw.F.ok sc_law_draw (fun vs H Q E h => ?_) (fun cdv A outer s H vs Q E hr h => ?_)
  · obtain ⟨a, n, rfl, _⟩ := h
    rfl
  · obtain ⟨a, n, rfl, hp, hn, hn2, q⟩ := h
    obtain ⟨x, y, ha, hx, hy, hy2⟩ := hp
    refine ⟨_, pss_cons (ps_if (pt_cmpR op_gt (pe_ix ix_list (pv 0) pe_int (fun _ _ => rfl)) pe_int (nomark _))
        (pss_cons (ps_asg (pe_callB call_divmod (by rfl) T.b_divmod PyProof.Rows.boot_divmod (pa_cons (pe_ix ix_list (pv 0) pe_int (fun _ _ => rfl)) (pa_cons (pv 1) pa_nil))) (pg_tup (by rfl) (pgs_cons (pg_sub (pv 0) pe_int set_list) (pgs_cons (pg_name (i := 2) sc_law_draw.nd rfl (.inl rfl)) pgs_nil))))
        (pss_one (ps_ret (pv 2)))) pss_nil)
      (pss_cons (ps_asg (pe_op op_mod (pe_callTy call_int1 (by rfl) T.b_int PyProof.Rows.boot_int (pa_cons (pe_op op_add (pe_op op_mul (pe_ix ix_list (pv 0) pe_int (fun _ _ => rfl)) pe_int) pe_int) pa_nil)) pe_int) (pg_sub (pv 0) pe_int set_list))
      (pss_one (ps_ret (pe_op op_mod (pe_callTy call_int1 (by rfl) T.b_int PyProof.Rows.boot_int (pa_cons (pe_op op_fdiv (pe_op op_mod (pe_callTy call_int1 (by rfl) T.b_int PyProof.Rows.boot_int (pa_cons (pe_op op_mul (pe_ix ix_list (pv 0) pe_int (fun _ _ => rfl)) (pe_ix ix_list (pv 0) pe_int (fun _ _ => rfl))) pa_nil)) pe_int) pe_int) pa_nil)) (pv 1))))), ?_⟩
    refine ⟨_, rfl, a, _, _, .int x, rfl, rfl, .inl (.inl ha), rfl, _, _, rfl, rfl, _, rfl, ite2 (fun e => ?_) (fun e => ?_)⟩
    · -- the pot's own digits
      have hx0 : 0 < x := of_decide_eq_true e
      refine ⟨_, rfl, a, _, _, .int x, rfl, rfl, .inl (.inl ha), rfl, _, rfl, x, n, rfl, ⟨by omega, by omega⟩, fun t nt => ?_⟩
      have nat' : a ≠ t := ne_of_none ha nt
      have ha2 : upd H t (.tup [.int (x / n), .int (x % n)]) a = some (.lst [.int x, .int y]) := by rw [upd_ne nat']; exact ha
      refine ⟨t, _, rfl, .inl (.inl upd_same), rfl, _, _, rfl, _, rfl, a, _, _, 0, rfl, rfl, ha2, ix2_0, _, _, rfl, rfl, ?_⟩
      have h0 := Int.emod_nonneg x (show (n : Int) ≠ 0 by omega)
      have h1 := Int.emod_lt_of_pos x (show (0 : Int) < (n : Int) by omega)
      obtain ⟨d, hd⟩ := Int.eq_ofNat_of_zero_le h0
      refine ⟨_, rfl, ?_⟩
      rw [hd]
      refine q _ d (by omega) ⟨x / n, y, upd_same, Int.ediv_nonneg hx (by omega), hy, hy2⟩ (Off.at (Off.up (Off.refl a H) nt))
    · -- the mixed number
      refine ⟨_, rfl, a, _, _, .int y, rfl, rfl, .inl (.inl ha), rfl, y, _, rfl, rfl, .inl ⟨by omega, by omega⟩, _, _, rfl, rfl, .inl ⟨_, rfl, _, _, rfl, rfl, (by show (0 : Int) < 2147483587; decide), ?_⟩⟩
      refine ⟨_, rfl, a, _, _, 1, rfl, rfl, ha, ix2_1, ?_⟩
      have hz := Int.emod_nonneg (y * 48271 + 14107) (show (2147483587 : Int) ≠ 0 by decide)
      have hz2 := Int.emod_lt_of_pos (y * 48271 + 14107) (show (0 : Int) < 2147483587 by decide)
      obtain ⟨z, hz0⟩ : ∃ z, (y * 48271 + 14107) % 2147483587 = z := ⟨_, rfl⟩
      have hA : upd H a (.lst ([V.int x, V.int y].set 1 ((fun i j => V.int (i % j)) (y * 48271 + 14107) 2147483587))) a = some (.lst [.int x, .int z]) := by
        rw [upd_same]
        show some (HO.lst [V.int x, V.int ((y * 48271 + 14107) % 2147483587)]) = _
        rw [hz0]
      rw [hz0] at hz hz2
      refine ⟨_, rfl, a, _, _, .int z, rfl, rfl, .inl (.inl hA), rfl, _, rfl, a, _, _, .int z, rfl, rfl, .inl (.inl hA), rfl, z, z, rfl, rfl, .inl ⟨by omega, by omega⟩,
        .inl ⟨_, rfl, _, _, rfl, rfl, (by show (0 : Int) < 2147483549; decide), _, _, rfl, rfl, ⟨by decide, by decide⟩, .inl ⟨_, rfl, _, rfl, _, _, rfl, rfl, (by show (0 : Int) < (n : Int); omega), ?_⟩⟩⟩
      have h0 := Int.emod_nonneg (z * z % 2147483549 / 17) (show (n : Int) ≠ 0 by omega)
      have h1 := Int.emod_lt_of_pos (z * z % 2147483549 / 17) (show (0 : Int) < (n : Int) by omega)
      obtain ⟨d, hd⟩ := Int.eq_ofNat_of_zero_le h0
      show Q (.int (z * z % 2147483549 / 17 % (n : Int))) _
      rw [hd]
      exact q _ d (by omega) ⟨x, z, hA, hx, hz, by omega⟩ (Off.at (Off.refl a H))
/-! ### _law_pick -/
def spPick (K : PySem.W.Frag) : Sp := fun vs H Q _ => ∃ (a : Addr) (x : V), vs = [.ref a, x] ∧ Pot H a ∧
  ((∃ l : List Nat, x = tx l ∧ l ≠ [] ∧ l.length ≤ 1000 ∧ ∀ (H' : Hp) (c : Nat), c ∈ l → Pot H' a → Off a H H' → Q (tx [c]) H') ∨
   ∃ (b : Addr) (xs : List V), x = .ref b ∧ b ≠ a ∧ SqL K H b xs ∧ xs ≠ [] ∧ xs.length ≤ 1000 ∧ ∀ (H' : Hp) (v : V), v ∈ xs → Pot H' a → Off a H H' → Q v H')
theorem ok_law_pick (T : All K mg) : FnOk P w K mg base CX0 2 T.f_law_pick T.d_law_pick ["_law_pot_here", "_law_pack"] (spPick K) := by
  refine T.law_pick.F.ok sc_law_pick (fun vs H Q E h => ?_) (fun cdv A outer s H vs Q E hr h => ?_)
  · obtain ⟨a, x, rfl, _⟩ := h
    rfl
  · obtain ⟨a, x, rfl, hp, h⟩ := h
    refine ⟨_, pss_one (ps_ret (pe_ix ix_seq (pv 1) (pe_call (ok_law_draw T) hr (by rfl) T.law_draw.g T.law_draw.F.kp T.law_draw.b .nil pass0 (pa_cons (pv 0) (pa_cons (pe_callB call_len (by rfl) T.b_len PySem.boot_len (pa_cons (pv 1) pa_nil)) pa_nil))) (fun _ _ => rfl))), ?_⟩
    rcases h with ⟨l, rfl, hl, hl2, q⟩ | ⟨b, xs, rfl, hba, hS, hl, hl2, q⟩
    · have hpos : 0 < l.length := List.length_pos_iff.mpr hl
      refine ⟨_, rfl, _, rfl, _, rfl, _, l.length, rfl, ⟨by rw [tS_len, sizeLine_eq]; omega, (tS_len l).symm⟩, a, l.length, rfl, hp, hpos, by omega, fun H' d hd hp' ho => ?_⟩
      refine .inr (.inr ⟨_, _, l[d], rfl, rfl, by rw [tS_len, sizeLine_eq]; omega, atI_nat (by simp [hd]), ?_⟩)
      exact q H' l[d] (List.getElem_mem hd) hp' ho
    · have hpos : 0 < xs.length := List.length_pos_iff.mpr hl
      refine ⟨_, rfl, _, rfl, _, rfl, _, xs.length, rfl, .inl ⟨xs, hS, rfl⟩, a, xs.length, rfl, hp, hpos, by omega, fun H' d hd hp' ho => ?_⟩
      refine .inl ⟨b, xs, _, xs[d], rfl, rfl, ho.seq hba hS, atI_nat (List.getElem?_eq_getElem hd), ?_⟩
      exact q H' xs[d] (List.getElem_mem hd) hp' ho
theorem Pot.up {H : Hp} {a p : Addr} {o : HO} (h : Pot H a) (n : a ≠ p) : Pot (upd H p o) a := by
  obtain ⟨x, y, e, r⟩ := h
  exact ⟨x, y, by rw [upd_ne n]; exact e, r⟩
theorem Pot.ne {H : Hp} {a p : Addr} (h : Pot H a) (e : H p = none) : a ≠ p := fun z => h.some (by rw [z]; exact e)
theorem Pot.same {H H' : Hp} {a : Addr} (h : Pot H a) (s : Same H H') : Pot H' a := by
  obtain ⟨x, y, e, r⟩ := h
  exact ⟨x, y, s _ _ e, r⟩
/-! ### heaps without the pot -/
theorem off_del {a : Addr} {H H' : Hp} (x : Off a H H') : Same (del H a) (del H' a) := fun b o e => by
  unfold del at e ⊢
  by_cases h : b = a
  · rw [if_pos h] at e; cases e
  · rw [if_neg h] at e ⊢; exact x b o e h
theorem off_of {a : Addr} {H H' : Hp} (s : Same (del H a) (del H' a)) : Off a H H' := fun b o e n => by
  have := s b o (by rw [del_ne n]; exact e)
  rw [del_ne n] at this
  exact this
theorem del_comm (H : Hp) (a b : Addr) : del (del H a) b = del (del H b) a := by
  funext c; unfold del
  by_cases h1 : c = b
  · by_cases h2 : c = a
    · rw [if_pos h1, if_pos h2]
    · rw [if_pos h1, if_neg h2, if_pos h1]
  · by_cases h2 : c = a
    · rw [if_neg h1, if_pos h2, if_pos h2]
    · rw [if_neg h1, if_neg h2, if_neg h2, if_neg h1]
theorem del_new {H : Hp} {a p : Addr} {o : HO} (n : p ≠ a) : del (upd H p o) a = upd (del H a) p o := by
  funext c
  by_cases h1 : c = a
  · rw [h1, del_at, upd_ne n.symm, del_at]
  · rw [del_ne h1]
    by_cases h2 : c = p
    · rw [h2, upd_same, upd_same]
    · rw [upd_ne h2, upd_ne h2, del_ne h1]
/-! ### _law_met -/
/-! ### _law_mixed -/
theorem nV_erase : ∀ (l : List Nat) (k : Nat), (nV l).eraseIdx k = nV (l.eraseIdx k)
  | [], k => by simp [nV]
  | a :: l, 0 => rfl
  | a :: l, k + 1 => congrArg (V.int (a : Int) :: ·) (nV_erase l k)
theorem perm_erase : ∀ {l : List Nat} {k : Nat} (h : k < l.length), (l[k] :: l.eraseIdx k).Perm l
  | a :: l, 0, _ => List.Perm.refl _
  | a :: l, k + 1, h => by
    have hk : k < l.length := by simpa using h
    have ih := perm_erase (l := l) (k := k) hk
    show (l[k] :: a :: l.eraseIdx k).Perm (a :: l)
    exact (List.Perm.swap a _ _).trans (List.Perm.cons a ih)
def spMixed (K : PySem.W.Frag) : Sp := fun vs H Q _ => ∃ (a b : Addr) (l : List Nat), vs = [.ref a, .ref b] ∧ Pot H a ∧ b ≠ a ∧ SqL K H b (nV l) ∧ l.length ≤ 1000 ∧ ∀ H' p l', l'.Perm l → Pot H' a → Off a H H' → H p = none → H' p = some (.lst (nV l')) → Q (.ref p) H'
theorem ok_law_mixed (T : All K mg) : FnOk P w K mg base CX0 2 T.f_law_mixed T.d_law_mixed ["_law_pot_here", "_law_some"] (spMixed K) := by
  refine T.law_mixed.F.ok sc_law_mixed (fun vs H Q E h => ?_) (fun cdv A outer s H vs Q E hr h => ?_)
  · obtain ⟨a, b, l, rfl, _⟩ := h
    rfl
  · obtain ⟨a, b, l, rfl, hp, hba, hS, hl, q⟩ := h
    refine ⟨_, pss_cons (ps_par rfl sc_law_mixed.nd (i := 2) (j := 3) rfl rfl (by decide) rfl rfl (pa_cons (pe_callTy call_list_of (by rfl) T.b_list PyProof.Rows.boot_list (pa_cons (pv 1) pa_nil)) (pa_cons (pe_lst pa_nil) pa_nil)) (by rfl))
      (pss_cons (ps_for PassesOwn.never rfl (pi_range1 rfl T.b_range (pa_cons (pe_callB call_len_seq (by rfl) T.b_len PySem.boot_len (pa_cons (pv 1) pa_nil)) pa_nil)) (pg_name (i := 4) sc_law_mixed.nd rfl (by first | exact Or.inl rfl | exact Or.inr rfl))
        (pss_one (ps_expr (pe_bm PySem.F.plainAttrs_list PySem.F.slot_list_append PySem.F.type_list_append mt_append (pv 3) (pa_cons (pe_bm PySem.F.plainAttrs_list PySem.F.slot_list_pop PySem.F.type_list_pop mt_popAt (pv 2) (pa_cons (pe_call (ok_law_draw T) (hr.mono (by decide)) (by rfl) T.law_draw.g T.law_draw.F.kp T.law_draw.b .nil pass0 (pa_cons (pv 0) (pa_cons (pe_callB call_len_seq (by rfl) T.b_len PySem.boot_len (pa_cons (pv 2) pa_nil)) pa_nil))) pa_nil)) pa_nil)))))
      (pss_one (ps_ret (pv 3)))), ?_⟩
    refine ⟨_, rfl, b, _, rfl, .inl hS, fun L nL => ⟨by show 0 ≤ sizeLine; decide, fun F nF => ⟨_, _, rfl, ?_⟩⟩⟩
    have naL : a ≠ L := hp.ne nL
    have nFL : L ≠ F := fun e => by rw [← e, upd_same] at nF; cases nF
    have nF0 : H F = none := by rw [upd_ne nFL.symm] at nF; exact nF
    have naF : a ≠ F := hp.ne nF0
    have sLF := sq_same hS ((same_upd (o := .lst (nV l)) nL).trans (same_upd (o := .lst []) nF))
    refine ⟨_, rfl, b, _, rfl, .inl sLF, _, rfl, by omega, by rw [nV_len]; omega, ?_⟩
    rw [nV_len, show ((l.length : Int)).toNat = l.length by omega]
    refine for_it walk_range (fun i σ H' => ∃ t, σ = [some (.ref a), some (.ref b), some (.ref L), some (.ref F), t] ∧ Pot H' a ∧ Off a H H' ∧ ∃ l1 l2, H' L = some (.lst (nV l1)) ∧ H' F = some (.lst (nV l2)) ∧ l2.length = i ∧ l1.length + i = l.length ∧ (l2 ++ l1).Perm l)
      ⟨none, rfl, (hp.up naL).up naF, ((Off.refl a H).up nL).up nF0, l, [], by rw [upd_ne nFL, upd_same], upd_same, rfl, rfl, List.Perm.refl _⟩ (fun _ _ _ _ _ => trivial) (fun i x σ H2 H3 hi p y => ?_) (fun σ H2 p => ?_)
    · obtain ⟨t0, rfl, hp2, ho2, l1, l2, hL, hF, e1, e2, hpm⟩ := p
      obtain ⟨rfl, rfl⟩ := y
      refine ⟨_, rfl, .inl ⟨rfl, _, .inl (.inl hF)⟩, _, rfl, .inl ⟨rfl, _, .inl (.inl hL)⟩, _, rfl, _, rfl, L, _, rfl, .inl (.inl (.inl hL)), a, l1.length, by rw [nV_len]; rfl, hp2, by omega, by omega, fun H4 d hd hp4 ho4 => ?_⟩
      have hL4 := ho4 _ _ hL naL.symm
      have hF4 := ho4 _ _ hF naF.symm
      refine ⟨L, _, (d : Int), d, _, rfl, rfl, hL4, by omega, by omega, ?_, nV_get (List.getElem?_eq_getElem hd), ?_⟩
      · rw [nV_len]; unfold seqIndex?; simp; omega
      refine ⟨F, _, _, rfl, rfl, by rw [upd_ne nFL.symm]; exact hF4, by rw [nV_len]; exact Nat.lt_of_lt_of_le (by omega : l2.length < 1001) (sz (by omega)), ?_⟩
      refine ⟨_, rfl, (hp4.up naL).up naF, ((ho2.trans ho4).up nL).up nF0, l1.eraseIdx d, l2 ++ [l1[d]], ?_, ?_, ?_, ?_, ?_⟩
      · rw [upd_ne nFL, upd_same, nV_erase]
      · rw [upd_same, nV_snoc]
      · rw [List.length_append, e1]; rfl
      · rw [List.length_eraseIdx_of_lt hd]; omega
      · rw [List.append_assoc]
        exact (List.Perm.append_left l2 (perm_erase hd)).trans hpm
    · obtain ⟨t0, rfl, hp2, ho2, l1, l2, hL, hF, e1, e2, hpm⟩ := p
      have : l1 = [] := List.eq_nil_of_length_eq_zero (by omega)
      subst this
      rw [List.append_nil] at hpm
      exact ⟨_, rfl, q _ F l2 hpm hp2 ho2 nF0 hF⟩
/-! ### _law_led -/
/-! ### _law_rig, _law_from -/
def dSh (R : List (List Nat)) (k : List Bool) : PyData := .tuple [dLR R, .list (dB k)]
theorem dp_sheet {H : Hp} {v : V} {R : List (List Nat)} {k : List Bool} (h : Dp K H v (dSh R k)) : ∃ (p : Addr) (a b : V), v = .ref p ∧ SqT K H p [a, b] ∧ Dp K H a (dLR R) ∧ Dp K H b (.list (dB k)) := by
  obtain ⟨p, xs, rfl, hS, hA⟩ := dp_tuple h
  cases hA with
  | cons h1 t => cases t with
    | cons h2 t => cases t; exact ⟨p, _, _, rfl, hS, h1, h2⟩
theorem sq_kinds {H : Hp} {b : V} {k : List Bool} (h : Dp K H b (.list (dB k))) : Sq K H b (k.map V.bl) := by
  obtain ⟨p, xs, rfl, hS, hA⟩ := dp_list h
  rw [dpAll_bools hA] at hS
  exact sq_list hS
end
end Lw

namespace Lw
open PySem PySem.Spec PyProof.Rows L3
open L2 hiding del del_same del_ne
theorem off_step {a D : Addr} {H X Y : Hp} (x : Off a H (del X D)) (y : Off a X Y) : Off a H (del Y D) := fun b o e n => by
  have h1 := x b o e n
  have hb : b ≠ D := fun z => by rw [z, del_at] at h1; cases h1
  rw [del_ne hb] at h1 ⊢
  exact y b o h1 n
theorem off_in {a D : Addr} {H X : Hp} (x : Off a H (del X D)) : Off a H X := fun b o e n => del_same _ _ _ _ (x b o e n)
theorem pot_in {a D : Addr} {H : Hp} (h : Pot (del H D) a) : Pot H a := h.same (del_same _ _)
theorem pot_out {a D : Addr} {H : Hp} (h : Pot H a) (n : a ≠ D) : Pot (del H D) a := by
  obtain ⟨x, y, e, r⟩ := h
  exact ⟨x, y, by rw [del_ne n]; exact e, r⟩
theorem off_dd {a D : Addr} {H X : Hp} (x : Off a H X) : Same (del (del H D) a) (del (del X D) a) := fun b o e => by
  have ha : b ≠ a := fun z => by rw [z, del_at] at e; cases e
  rw [del_ne ha] at e ⊢
  have hd : b ≠ D := fun z => by rw [z, del_at] at e; cases e
  rw [del_ne hd] at e ⊢
  exact x b o e ha
theorem del_off {a : Addr} {H : Hp} : Off a (del H a) H := fun b o e _ => del_same _ _ _ _ e
theorem cutV_1 (xs : List V) : cutV xs none (some 1) = xs.take 1 := by
  unfold cutV
  have e1 : HT.sIx xs.length xs.length (some 1) = min 1 xs.length := HT.sIx_nat xs.length xs.length 1
  rw [HT.sIx_none, e1, List.drop_zero, Nat.sub_zero]
  cases xs with
  | nil => rfl
  | cons x xs => rw [Nat.min_eq_left (by rw [List.length_cons]; omega)]
theorem nV_take (l : List Nat) (n : Nat) : (nV l).take n = nV (l.take n) := by unfold nV; rw [List.map_take]
theorem nV_drop (l : List Nat) (n : Nat) : (nV l).drop n = nV (l.drop n) := by unfold nV; rw [List.map_drop]
theorem nV_app (l m : List Nat) : nV l ++ nV m = nV (l ++ m) := by unfold nV; rw [List.map_append]
/-- lc_data, where one more place is left out -/
theorem lc_dataX {K : PySem.W.Frag} {J : It} {n : Nat} {G : Hp → Prop} {Y : Nat → Hp → V → Hp → Prop} (w : Walk J n G Y) {g : TG} {te : TE} {vs : List Nat} {σ : L2.St} {H1 : Hp} {D : Addr} {Qd : Hp → Prop} (a : Addr) (ds : List PyData) (hn : ds.length = n) (hz : n ≤ sizeLine)
    (nD : H1 D = none) (hG : ∀ H, Same H1 H → G H)
    (hs : ∀ i x H H' acc d (C : VK), i < n → Same H1 H → H D = some (.lst acc) → Y i H x H' → ds[i]? = some d → (∀ v H4, Same H H4 → Dp K (del (del H4 D) a) v d → C v H4) → g x (wipe σ vs) H' fun σ2 H2 => wipe σ2 vs = wipe σ vs ∧ te σ2 H2 C)
    (hgm : ∀ x σ H (Q Q' : L2.St → Hp → Prop), (∀ σ2 H2, Q σ2 H2 → Q' σ2 H2) → g x σ H Q → g x σ H Q')
    (hd : ∀ H xs, Same H1 H → H D = some (.lst xs) → DpAll K (del (del H D) a) xs ds → Qd H) :
    ∃ W : Nat → Nat → Hp → Prop, (∃ m, W 0 m (upd H1 D (.lst []))) ∧ ∀ i m H, W i m H →
      (J.stop i H ∧ Qd H) ∨ (J.go i H ∧ ∃ Nx : Hp → Prop, (∀ H', Nx H' → ∃ m', m' < m ∧ W (i + 1) m' H') ∧ ∀ x H', J.yld i H x H' → g x (wipe σ vs) H' fun σ2 H2 => wipe σ2 vs = wipe σ vs ∧ tYes σ2 H2 fun b H3 =>
        if b = true then te σ2 H3 fun y H4 => ∃ acc, H4 D = some (.lst acc) ∧ acc.length < sizeLine ∧ Nx (upd H4 D (.lst (acc ++ [y]))) else Nx H3) := by
  refine lc_dp w (fun i acc H => Same H1 H ∧ DpAll K (del H a) acc (ds.take i)) hz (fun i acc H p => ?_) nD ⟨Same.refl _, .nil⟩ (fun i acc H p _ => hG H (p.1.trans (del_same _ _))) (fun i x H H' acc C N hi p hD y c nn => ?_) (fun H xs hD p => ?_)
  · rw [dpAll_len p.2, List.length_take]; omega
  · have hlt : i < ds.length := by omega
    refine hgm _ _ _ _ _ (fun σ2 H2 h => ⟨h.1, yes_te h.2⟩) (hs i x H H' acc ds[i] C hi (p.1.trans (del_same _ _)) hD y (List.getElem?_eq_getElem hlt) fun v H4 s4 d4 => ?_)
    have s5 := del_mono D s4
    refine c v H4 (s4 _ _ hD) ⟨p.1.trans s5, ?_⟩
    rw [List.take_add_one, List.getElem?_eq_getElem hlt]
    exact dpAll_app (DpAll.same (del_mono a s5) p.2) (.cons d4 .nil)
  · have e : ds.take n = ds := by rw [← hn]; exact List.take_length
    rw [e] at p
    exact hd H xs (p.1.trans (del_same _ _)) hD p.2
section
variable {P : Program} {w : World} {K : PySem.W.Frag} {mg : Str → Option Value} {base : Heap}
/-! ### _law_sheet -/
end
end Lw

namespace Lw
open PySem PySem.Spec PyProof.Rows L3
open L2 hiding del del_same del_ne
section
variable {P : Program} {w : World} {K : PySem.W.Frag} {mg : Str → Option Value} {base : Heap}
/-! ### _law_met -/
def spLawMet (K : PySem.W.Frag) : Sp := fun vs H Q _ => ∃ (a : V) (R : List (List Nat)) (a0 : Addr), H a0 ≠ none ∧ vs = [a] ∧ Rw K H a R ∧ M14.Val R ∧ 0 < R.length ∧ R.length ≤ 40 ∧ (∀ p, p < R.length → (M14.row R p).length ≤ 3) ∧ ∀ H' p, Same H H' → H p = none → Dp K (del H' a0) (.ref p) (dLR (M14.fromR R 0)) → Q (.ref p) H'
theorem ok_law_met (T : All K mg) : FnOk P w K mg base CX0 2 T.f_law_met T.d_law_met ["_law_rows_here"] (spLawMet K) := by
  refine T.law_met.F.ok sc_law_met (fun vs H Q E h => ?_) (fun cdv A outer s H vs Q E hr h => ?_)
  · obtain ⟨a, R, a0, _, rfl, _⟩ := h
    rfl
  · obtain ⟨a, R, a0, ha0, rfl, hR, hv, hne, hfew, hr3, q⟩ := h
    refine ⟨_, pss_cons (ps_asg (pe_tup (pa_cons (pe_lst (pa_cons pe_int pa_nil)) (pa_cons pe_int pa_nil))) (pg_tup rfl (pgs_cons (pg_name (i := 1) sc_law_met.nd rfl (by first | exact Or.inl rfl | exact Or.inr rfl)) (pgs_cons (pg_name (i := 2) sc_law_met.nd rfl (by first | exact Or.inl rfl | exact Or.inr rfl)) pgs_nil))))
      (pss_cons (ps_while PassesOwn.never (pt_cmpR op_lt (pv 2) (pe_callB call_len_seq (by rfl) T.b_len PySem.boot_len (pa_cons (pv 1) pa_nil)) (nomark _))
        (pss_cons (ps_for PassesOwn.never rfl (pi_sq (pe_ix ix_sq (pv 0) (pe_ix ix_list (pv 1) (pv 2) (fun _ _ => rfl)) (fun _ _ => rfl))) (pg_name (i := 3) sc_law_met.nd rfl (by first | exact Or.inl rfl | exact Or.inr rfl))
        (pss_one (ps_if (pt_cmpR op_notInN (pv 3) (pv 1) (by rfl)) (pss_one (ps_expr (pe_bm PySem.F.plainAttrs_list PySem.F.slot_list_append PySem.F.type_list_append mt_append (pv 1) (pa_cons (pv 3) pa_nil)))) pss_nil)))
      (pss_one (ps_set (i := 2) sc_law_met.nd rfl (by first | exact Or.inl rfl | exact Or.inr rfl) (pe_op op_add (pv 2) pe_int)))))
      (pss_one (ps_ret (pe_lc (own := [("_law_spot", 4)]) (g := gName 4) (tt := tYes) rfl sc_law_met.nd (pi_list (pv 1))
          (blkOk_by (own := [("_law_spot", 4)]) (N := ["_law_rows_here", "_law_order", "_law_at", "_law_step", "_law_spot"]) (sc := defScope s_law_met) (by decide +kernel))
          (fun _ _ _ _ _ => pg_name (i := 4) sc_law_met.nd rfl (by first | exact Or.inl rfl | exact Or.inr rfl)) (fun _ _ _ _ _ => pts_nil)
          (fun _ _ _ _ _ => (pe_lc (own := [("_law_step", 3)]) (g := gName 3) (tt := tYes) rfl sc_law_met.nd (pi_sqK (K := K) rfl (pe_ix (ix_sqK (K := K) rfl) (pv 0) (pv 4) (fun _ _ => rfl)))
          (blkOk_by (own := [("_law_step", 3)]) (N := ["_law_rows_here", "_law_order", "_law_at", "_law_step", "_law_spot"]) (by first | kernel_rfl | rfl))
          (fun _ _ _ _ _ => pg_name (i := 3) sc_law_met.nd rfl (by first | exact Or.inl rfl | exact Or.inr rfl)) (fun _ _ _ _ _ => pts_nil)
          (fun _ _ _ _ _ => (pe_bmk (K := K) rfl PySem.F.plainAttrs_list PySem.F.slot_list_index PySem.F.type_list_index (mt_indexNK (K := K) rfl) (pv 1) (pa_cons (pv 3) pa_nil))))))))), ?_⟩
    refine ⟨by show 1 ≤ sizeLine; decide, fun D nD => ?_⟩
    refine ⟨by show 2 ≤ sizeLine; decide, fun tt ntt => ?_⟩
    refine ⟨tt, _, rfl, .inl (.inl upd_same), rfl, _, _, rfl, _, _, rfl, rfl, ?_⟩
    have nDt : D ≠ tt := fun e => by rw [← e, upd_same] at ntt; cases ntt
    have hD0 : upd (upd H D (.lst [.int 0])) tt (.tup [.ref D, .int 0]) D = some (.lst (nV (M14.metI R 0 0))) := by rw [upd_ne nDt, upd_same]; rfl
    have sm0 : Same H (upd (upd H D (.lst [.int 0])) tt (.tup [.ref D, .int 0])) := (same_upd nD).trans (same_upd ntt)
    generalize upd (upd H D (.lst [.int 0])) tt (.tup [.ref D, .int 0]) = H0 at *
    refine while_n (fun n σ H' => ∃ g, σ = [some a, some (.ref D), some (.int (n : Int)), g, none] ∧ H' D = some (.lst (nV (M14.metI R 0 n))) ∧ Same H H') 40 ⟨none, rfl, hD0, sm0⟩ (fun n σ H1 p Kc kt kf => ?_)
    obtain ⟨g0, rfl, hD, sm⟩ := p
    have hlen := M14.metI_len hv hne n
    refine ⟨_, rfl, _, rfl, D, _, rfl, .inl (.inl (.inl hD)), _, _, rfl, rfl, _, rfl, ?_⟩
    rw [nV_len]
    by_cases hlt : n < (M14.metI R 0 n).length
    · rw [decide_eq_true (by omega : (n : Int) < ((M14.metI R 0 n).length : Int))]
      refine kt _ (by omega) ?_
      have hgt : (M14.metI R 0 n)[n]? = some (M14.metI R 0 n)[n] := List.getElem?_eq_getElem hlt
      generalize (M14.metI R 0 n)[n] = p at hgt
      have hp : p < R.length := M14.metI_lt hv hne n p (List.mem_of_getElem? hgt)
      obtain ⟨xs, x, hS, hx, hSx⟩ := hR.row hp
      refine ⟨_, rfl, _, rfl, _, rfl, D, _, _, _, rfl, rfl, .inl (.inl hD), atI_nat (nV_get hgt), xs, _, x, hS.same sm, rfl, atI_nat hx, _, H, hSx, sm, fun J G wk hG => ?_⟩
      refine for_it wk (fun i σ H' => ∃ g, σ = [some a, some (.ref D), some (.int (n : Int)), g, none] ∧ H' D = some (.lst (nV (((M14.row R p).take i).foldl M14.addG (M14.metI R 0 n)))) ∧ Same H H') ⟨_, rfl, hD, sm⟩ (fun i σ H' _ p => by obtain ⟨_, _, _, sm⟩ := p; exact hG _ sm) (fun i x σ H2 H3 hi p' y => ?_) (fun σ H2 p' => ?_)
      · obtain ⟨g1, rfl, hD2, sm2⟩ := p'
        obtain ⟨rfl, y⟩ := y
        obtain ⟨g, hg, rfl⟩ := nV_inv y
        have hstep : ((M14.row R p).take (i + 1)).foldl M14.addG (M14.metI R 0 n) = M14.addG (((M14.row R p).take i).foldl M14.addG (M14.metI R 0 n)) g := by
          rw [List.take_add_one, hg, List.foldl_append]; rfl
        refine ⟨_, rfl, _, rfl, _, g, rfl, sq_list (.inl (.inl hD2)), _, rfl, ?_⟩
        by_cases hm : g ∈ ((M14.row R p).take i).foldl M14.addG (M14.metI R 0 n)
        · refine ite_f (by simp [hm]) ?_
          refine ⟨_, rfl, ?_, sm2⟩
          rw [hstep, hD2, M14.addG, if_pos hm]
        · refine ite_t (by simp [hm]) ?_
          have hlen2 : (((M14.row R p).take i).foldl M14.addG (M14.metI R 0 n)).length ≤ R.length := M14.nodup_len _ _ (M14.fold_nodup (M14.metI_nodup R 0 n)) fun z hz => by
            rcases M14.fold_mem.mp hz with hz | hz
            · exact M14.metI_lt hv hne n z hz
            · exact hv p hp z (List.mem_of_mem_take hz)
          refine ⟨_, rfl, .inl ⟨rfl, _, .inl (.inl hD2)⟩, _, rfl, D, _, _, rfl, rfl, hD2, by rw [nV_len]; exact Nat.lt_of_lt_of_le (Nat.lt_succ_of_le hlen2) (sz (by omega)), ?_⟩
          refine ⟨_, rfl, ?_, same_up sm2 nD⟩
          rw [upd_same, hstep, M14.addG, if_neg hm]
          unfold nV
          rw [List.map_append]
          rfl
      · obtain ⟨g1, rfl, hD2, sm2⟩ := p'
        rw [nV_len, List.take_length, ← M14.metI_succ hgt] at hD2
        exact ⟨_, rfl, _, _, rfl, rfl, _, rfl, hD2, sm2⟩
    · rw [decide_eq_false (by omega : ¬ (n : Int) < ((M14.metI R 0 n).length : Int))]
      refine kf _ ?_
      have hM : H1 D = some (.lst (nV (M14.met R 0))) := by rw [hD, M14.met_of hv hne (by omega)]
      have hlt' : ∀ p ∈ M14.met R 0, p < R.length := fun p hp => M14.met_lt hv hne hp
      have hml : (M14.met R 0).length ≤ 40 := Nat.le_trans (M14.met_len hv hne) hfew
      refine ⟨_, rfl, D, rfl, ⟨_, .inl (.inl hM)⟩, fun E1 nE1 => ?_⟩
      refine lc_dataX (K := K) (walk_list (xs := nV (M14.met R 0))) a0 ((M14.met R 0).map fun p => .list (dN ((M14.row R p).map fun g => (M14.met R 0).idxOf g))) (by rw [List.length_map, nV_len]) (sz (by rw [nV_len]; omega)) nE1 (fun H' s' => .inl (.inl (s' _ _ hM))) (fun i y Hh H' acc d C hi sm2 hD2 yy hd c => ?_) gName_mono (fun H5 xs' s5 hD5 hA => ?_)
      · obtain ⟨rfl, hy⟩ := yy
        obtain ⟨p, hp, rfl⟩ := nV_inv hy
        rw [List.getElem?_map, hp] at hd
        cases hd
        have hpm := List.mem_of_getElem? hp
        obtain ⟨xs, x, hS, hx, hSx⟩ := hR.row (hlt' p hpm)
        have s1h := sm.trans sm2
        have hrl : (M14.row R p).length ≤ 3 := hr3 p (hlt' p hpm)
        refine ⟨rfl, ⟨_, rfl, _, rfl, xs, _, x, hS.same s1h, rfl, atI_nat hx, _, H, hSx, s1h, fun J G wk hGG E2 nE2 => ?_⟩⟩
        refine lc_gen wk (Same H') (fun i acc => acc = nV (((M14.row R p).take i).map fun g => (M14.met R 0).idxOf g)) (sz (by rw [nV_len]; omega)) (fun i acc e => by rw [e, nV_len, List.length_map, List.length_take]; omega) rfl (same_upd nE2) (fun _ _ h => same_up h nE2) (fun _ h => hGG _ (s1h.trans h)) (fun i x H2 H3 acc2 C2 N hi2 r hE2 ha y c2 n2 => ?_) (fun H2 ys r hE2 ha => ?_)
        · obtain ⟨rfl, y⟩ := y
          obtain ⟨g, hg, rfl⟩ := nV_inv y
          have hM3 : SqL K H3 D (nV (M14.met R 0)) := .inl (.inl (r _ _ (sm2 _ _ hM)))
          refine ⟨rfl, yes_te ⟨_, rfl, .inl ⟨rfl, _, hM3⟩, _, rfl, D, M14.met R 0, g, rfl, rfl, hM3, M14.met_closed hv hne hpm (List.mem_of_getElem? hg), ?_⟩⟩
          refine c2 _ _ r hE2 ?_
          rw [ha, List.take_add_one, hg, List.map_append]
          exact (nV_snoc _ _).symm
        · subst ha
          rw [nV_len, List.take_length] at hE2
          refine c _ _ r (.lst (.inl (.inl ?_)) (dpAll_nV _))
          have hE20 : E2 ≠ a0 := fun e => by
            cases h0 : H a0 with
            | none => exact ha0 h0
            | some o => rw [e, s1h _ _ h0] at nE2; cases nE2
          rw [del_ne hE20, del_ne (fun e => by rw [e, hD2] at nE2; cases nE2)]
          exact hE2
      · refine q _ E1 (sm.trans s5) (sm.free nE1) ?_
        unfold dLR M14.fromR M14.ren
        rw [List.map_map]
        have hE10 : E1 ≠ a0 := fun e => by
          cases h0 : H a0 with
          | none => exact ha0 h0
          | some o => rw [e, sm _ _ h0] at nE1; cases nE1
        exact .lst (.inl (.inl (by rw [del_ne hE10]; exact hD5))) (DpAll.same (del_mono a0 (del_same _ _)) hA)
end
end Lw
namespace Lw
open PySem PySem.Spec PyProof.Rows L3
open L2 hiding del del_same del_ne
def from1 (n : Nat) : List Nat := (List.range (n - 1)).map (· + 1)
theorem rgV_1 {n : Nat} (h : 0 < n) : rgV 1 (n : Int) = nV (from1 n) := by
  unfold rgV nV from1
  rw [show ((n : Int) - 1).toNat = n - 1 by omega, List.map_map]
  refine List.map_congr_left fun i _ => ?_
  show V.int (1 + (i : Int)) = V.int ((i + 1 : Nat) : Int)
  congr 1
  omega
theorem from1_len (n : Nat) : (from1 n).length = n - 1 := by unfold from1; rw [List.length_map, List.length_range]
theorem from1_perm {n : Nat} (h : 0 < n) : (0 :: from1 n) = List.range n := by
  obtain ⟨m, rfl⟩ : ∃ m, n = m + 1 := ⟨n - 1, by omega⟩
  unfold from1
  rw [Nat.add_sub_cancel, List.range_succ_eq_map]
section
variable {P : Program} {w : World} {K : PySem.W.Frag} {mg : Str → Option Value} {base : Heap}
/-! ### _law_turned -/
def spLawTurned (K : PySem.W.Frag) : Sp := fun vs H Q _ => ∃ (a v : Addr) (n : Nat) (R : List (List Nat)) (k : List Bool), vs = [.ref a, .ref v] ∧ Pot H a ∧ Dp K (del H a) (.ref v) (dLR R) ∧ M14.Good n R k ∧ n ≤ 3 ∧
  ∀ (H' : Hp) (p : Addr) (od : List Nat), od.Perm (List.range R.length) → od[0]? = some 0 → Pot H' a → Off a H H' → Dp K (del H' a) (.ref p) (dLR (M14.ren od R)) → Q (.ref p) H'
theorem ok_law_turned (T : All K mg) : FnOk P w K mg base CX0 2 T.f_law_turned T.d_law_turned ["_law_pot_here", "_law_rows_here"] (spLawTurned K) := by
  refine T.law_turned.F.ok sc_law_turned (fun vs H Q E h => ?_) (fun cdv A outer s H vs Q E hr h => ?_)
  · obtain ⟨a, v, n, R, k, rfl, _⟩ := h
    rfl
  · obtain ⟨a, v, n, R, k, rfl, hp, hv, hGd, hn, q⟩ := h
    have hne := hGd.ne
    have hfew := hGd.few
    obtain ⟨v', xsv, ev, hSv, hAv⟩ := dp_list hv
    cases ev
    have hxl : xsv.length = R.length := by rw [dpAll_len hAv, List.length_map]
    have hSv0 : SqL K H v xsv := sq_same hSv (del_same _ _)
    refine ⟨_, pss_cons (ps_asg (pe_tup (pa_cons (pe_lst (pa_cons pe_int pa_nil)) (pa_cons (pe_listRg (by rfl) (by rfl) T.b_list (prg_2 (by rfl) T.b_range pe_int (pe_callB call_len_seq (by rfl) T.b_len PySem.boot_len (pa_cons (pv 1) pa_nil)))) pa_nil))) (pg_tup rfl (pgs_cons (pg_name (i := 2) sc_law_turned.nd rfl (by first | exact Or.inl rfl | exact Or.inr rfl)) (pgs_cons (pg_name (i := 3) sc_law_turned.nd rfl (by first | exact Or.inl rfl | exact Or.inr rfl)) pgs_nil))))
      (pss_cons (ps_for PassesOwn.never rfl (pi_range1 rfl T.b_range (pa_cons (pe_op op_sub (pe_callB call_len_seq (by rfl) T.b_len PySem.boot_len (pa_cons (pv 1) pa_nil)) pe_int) pa_nil)) (pg_name (i := 4) sc_law_turned.nd rfl (by first | exact Or.inl rfl | exact Or.inr rfl))
        (pss_one (ps_expr (pe_bm PySem.F.plainAttrs_list PySem.F.slot_list_append PySem.F.type_list_append mt_append (pv 2) (pa_cons (pe_bm PySem.F.plainAttrs_list PySem.F.slot_list_pop PySem.F.type_list_pop mt_popAt (pv 3) (pa_cons (pe_call (ok_law_draw T) (hr.mono (by decide)) (by rfl) T.law_draw.g T.law_draw.F.kp T.law_draw.b .nil pass0 (pa_cons (pv 0) (pa_cons (pe_callB call_len_seq (by rfl) T.b_len PySem.boot_len (pa_cons (pv 3) pa_nil)) pa_nil))) pa_nil)) pa_nil)))))
      (pss_one (ps_ret (pe_lc (own := [("_law_spot", 6)]) (g := gName 6) (tt := tYes) rfl sc_law_turned.nd (pi_list (pv 2))
          (blkOk_by (own := [("_law_spot", 6)]) (N := ["_law_pot_here", "_law_rows_here", "_law_order", "_law_rest", "_law_turn", "_law_step", "_law_spot"]) (sc := defScope s_law_turned) (by decide +kernel))
          (fun _ _ _ _ _ => pg_name (i := 6) sc_law_turned.nd rfl (by first | exact Or.inl rfl | exact Or.inr rfl)) (fun _ _ _ _ _ => pts_nil)
          (fun _ _ _ _ _ => (pe_lc (own := [("_law_step", 5)]) (g := gName 5) (tt := tYes) rfl sc_law_turned.nd (pi_sqK (K := K) rfl (pe_ix (ix_sqK (K := K) rfl) (pv 1) (pv 6) (fun _ _ => rfl)))
          (blkOk_by (own := [("_law_step", 5)]) (N := ["_law_pot_here", "_law_rows_here", "_law_order", "_law_rest", "_law_turn", "_law_step", "_law_spot"]) (by first | kernel_rfl | rfl))
          (fun _ _ _ _ _ => pg_name (i := 5) sc_law_turned.nd rfl (by first | exact Or.inl rfl | exact Or.inr rfl)) (fun _ _ _ _ _ => pts_nil)
          (fun _ _ _ _ _ => (pe_bmk (K := K) rfl PySem.F.plainAttrs_list PySem.F.slot_list_index PySem.F.type_list_index (mt_indexNK (K := K) rfl) (pv 2) (pa_cons (pv 5) pa_nil))))))))), ?_⟩
    refine ⟨by show 1 ≤ sizeLine; decide, fun F nF => ?_⟩
    have naF : a ≠ F := hp.ne nF
    have sF := same_upd (o := .lst [.int 0]) nF
    refine ⟨_, rfl, v, _, rfl, .inl (sq_same hSv0 sF), ?_⟩
    refine ⟨1, (R.length : Int), rfl, by rw [hxl], RgOk.of_le (by decide) (by omega) (by decide) (by omega), fun L nL => ?_⟩
    rw [rgV_1 hne]
    have nLF : F ≠ L := fun e => by rw [← e, upd_same] at nL; cases nL
    have nL0 : H L = none := by rw [upd_ne nLF.symm] at nL; exact nL
    have naL : a ≠ L := hp.ne nL0
    have sL := same_upd (o := .lst (nV (from1 R.length))) nL
    refine ⟨by show 2 ≤ sizeLine; decide, fun tt ntt => ?_⟩
    have sT := same_upd (o := .tup [.ref F, .ref L]) ntt
    have hF0 := sT _ _ (sL _ _ (upd_same (H := H) (a := F) (o := .lst [.int 0])))
    have hL0 := sT _ _ (upd_same (H := upd H F (.lst [.int 0])) (a := L) (o := .lst (nV (from1 R.length))))
    have hT0 := upd_same (H := upd (upd H F (.lst [.int 0])) L (.lst (nV (from1 R.length)))) (a := tt) (o := .tup [.ref F, .ref L])
    have s00 := (sF.trans sL).trans sT
    refine ⟨tt, _, rfl, .inl (.inl hT0), rfl, _, _, rfl, _, _, rfl, rfl, ?_⟩
    generalize upd (upd (upd H F (.lst [.int 0])) L (.lst (nV (from1 R.length)))) tt (.tup [.ref F, .ref L]) = H0 at *
    have hp0 : Pot H0 a := hp.same s00
    have ho0 : Off a H H0 := Off.of s00
    refine ⟨_, rfl, v, _, rfl, .inl (sq_same hSv0 s00), _, _, rfl, rfl, _, rfl, by omega, by omega, ?_⟩
    rw [show ((xsv.length : Int) - 1).toNat = R.length - 1 by omega]
    refine for_it walk_range (fun i σ H' => ∃ t, σ = [some (.ref a), some (.ref v), some (.ref F), some (.ref L), t, none, none] ∧ Pot H' a ∧ Off a H H' ∧ ∃ l1 l2, H' L = some (.lst (nV l1)) ∧ H' F = some (.lst (nV (0 :: l2))) ∧ l2.length = i ∧ l1.length + i = R.length - 1 ∧ (l2 ++ l1).Perm (from1 R.length))
      ⟨none, rfl, hp0, ho0, from1 R.length, [], hL0, hF0, rfl, by rw [from1_len]; rfl, List.Perm.refl _⟩ (fun _ _ _ _ _ => trivial) (fun i x σ H2 H3 hi p y => ?_) (fun σ H2 p => ?_)
    · obtain ⟨t0, rfl, hp2, ho2, l1, l2, hL, hF, e1, e2, hpm⟩ := p
      obtain ⟨rfl, rfl⟩ := y
      refine ⟨_, rfl, .inl ⟨rfl, _, .inl (.inl hF)⟩, _, rfl, .inl ⟨rfl, _, .inl (.inl hL)⟩, _, rfl, _, rfl, L, _, rfl, .inl (.inl (.inl hL)), a, l1.length, by rw [nV_len]; rfl, hp2, by omega, by omega, fun H4 d hd hp4 ho4 => ?_⟩
      have hL4 := ho4 _ _ hL naL.symm
      have hF4 := ho4 _ _ hF naF.symm
      refine ⟨L, _, (d : Int), d, _, rfl, rfl, hL4, by omega, by omega, ?_, nV_get (List.getElem?_eq_getElem hd), ?_⟩
      · rw [nV_len]; unfold seqIndex?; simp; omega
      refine ⟨F, _, _, rfl, rfl, by rw [upd_ne nLF]; exact hF4, by rw [nV_len, List.length_cons]; exact Nat.lt_of_lt_of_le (by omega : l2.length + 1 < 1001) (sz (by omega)), ?_⟩
      refine ⟨_, rfl, (hp4.up naL).up naF, ((ho2.trans ho4).up nL0).up nF, l1.eraseIdx d, l2 ++ [l1[d]], ?_, ?_, ?_, ?_, ?_⟩
      · rw [upd_ne nLF.symm, upd_same, nV_erase]
      · rw [upd_same, ← List.cons_append, nV_snoc]
      · rw [List.length_append, e1]; rfl
      · rw [List.length_eraseIdx_of_lt hd]; omega
      · rw [List.append_assoc]
        exact (List.Perm.append_left l2 (perm_erase hd)).trans hpm
    · obtain ⟨t0, rfl, hp2, ho2, l1, l2, hL, hF, e1, e2, hpm⟩ := p
      have : l1 = [] := List.eq_nil_of_length_eq_zero (by omega)
      subst this
      rw [List.append_nil] at hpm
      have hod : (0 :: l2).Perm (List.range R.length) := by
        rw [← from1_perm hne]
        exact List.Perm.cons 0 hpm
      generalize hode : (0 :: l2) = od at *
      have hod0 : od[0]? = some 0 := by rw [← hode]; rfl
      have hodl : od.length = R.length := by rw [hod.length_eq, List.length_range]
      have hrows2 : Dp K (del H2 a) (.ref v) (dLR R) := Dp.same (off_del ho2) hv
      have hR2 := rw_dLR hrows2
      have hmemlt : ∀ p ∈ od, p < R.length := fun p hp => List.mem_range.mp (hod.mem_iff.mp hp)
      have hclosed : ∀ p ∈ od, ∀ g ∈ M14.row R p, g ∈ od := fun p hp g hg => hod.mem_iff.mpr (List.mem_range.mpr (hGd.val p (hmemlt p hp) g hg))
      refine ⟨_, rfl, F, rfl, ⟨_, .inl (.inl hF)⟩, fun D4 nD4 => ?_⟩
      have naD4 : a ≠ D4 := hp2.ne nD4
      refine lc_dataX (K := K) (walk_list (xs := nV od)) a (od.map fun p => .list (dN ((M14.row R p).map fun g => od.idxOf g))) (by rw [List.length_map, nV_len]) (sz (by rw [nV_len]; omega)) nD4 (fun H' s' => .inl (.inl (s' _ _ hF))) (fun i y Hh H' acc dd C hi sm hD yy hd c => ?_) gName_mono (fun H8 xs8 s8 hD8 hA8 => ?_)
      · obtain ⟨rfl, hy⟩ := yy
        obtain ⟨p, hp', rfl⟩ := nV_inv hy
        rw [List.getElem?_map, hp'] at hd
        cases hd
        have hpm2 := List.mem_of_getElem? hp'
        obtain ⟨xs, x, hS, hx, hSx⟩ := hR2.row (hmemlt p hpm2)
        have s7h : Same (del H2 a) H' := (del_same _ _).trans sm
        have hrl : (M14.row R p).length ≤ 3 := by have h1 := hGd.len _ (M14.row_mem (hmemlt p hpm2)); omega
        refine ⟨rfl, ⟨_, rfl, _, rfl, xs, _, x, hS.same s7h, rfl, atI_nat hx, _, del H2 a, hSx, s7h, fun J G wk hGG D5 nD5 => ?_⟩⟩
        refine lc_gen wk (Same H') (fun i acc => acc = nV (((M14.row R p).take i).map fun g => od.idxOf g)) (sz (by rw [nV_len]; omega)) (fun i acc e => by rw [e, nV_len, List.length_map, List.length_take]; omega) rfl (same_upd nD5) (fun _ _ h => same_up h nD5) (fun _ h => hGG _ (s7h.trans h)) (fun i x H9 H10 acc2 C2 N hi2 r hD9 ha y c2 n2 => ?_) (fun H9 ys r hD9 ha => ?_)
        · obtain ⟨rfl, y⟩ := y
          obtain ⟨g, hg, rfl⟩ := nV_inv y
          have hO3 : SqL K H10 F (nV od) := .inl (.inl (r _ _ (sm _ _ hF)))
          refine ⟨rfl, yes_te ⟨_, rfl, .inl ⟨rfl, _, hO3⟩, _, rfl, F, od, g, rfl, rfl, hO3, hclosed p hpm2 g (List.mem_of_getElem? hg), ?_⟩⟩
          refine c2 _ _ r hD9 ?_
          rw [ha, List.take_add_one, hg, List.map_append]
          exact (nV_snoc _ _).symm
        · subst ha
          rw [nV_len, List.take_length] at hD9
          refine c _ _ r (.lst (.inl (.inl ?_)) (dpAll_nV _))
          have naD5 : D5 ≠ a := fun e => by
            have := (hp2.same sm).ne nD5
            exact this e.symm
          rw [del_ne naD5, del_ne (fun e => by rw [e, hD] at nD5; cases nD5)]
          exact hD9
      · have eL : dLR (M14.ren od R) = .list (od.map fun p => .list (dN ((M14.row R p).map fun g => od.idxOf g))) := by
          unfold dLR M14.ren
          rw [List.map_map]
          rfl
        refine q _ _ od hod hod0 (hp2.same s8) (ho2.trans (Off.of s8)) ?_
        rw [eL]
        exact .lst (.inl (.inl (by rw [del_ne naD4.symm]; exact hD8))) (DpAll.same (del_mono a (del_same _ _)) hA8)
end
end Lw
namespace Lw
open PySem PySem.Spec PyProof.Rows L3
open L2 hiding del del_same del_ne
/-- rows that are being made: the list at D, the pot at a -/
structure Mk (K : PySem.W.Frag) (a D : Addr) (n z i : Nat) (H : Hp) : Prop where
  ex : ∃ (xs : List V) (Rp : List (List Nat)), H D = some (.lst xs) ∧ DpAll K (del (del H D) a) xs (Rp.map fun r => .list (dN r)) ∧ Rp.length = i ∧ ∀ r ∈ Rp, r.length = n ∧ ∀ g ∈ r, g < z
theorem Mk.off {K : PySem.W.Frag} {a D : Addr} {n z i : Nat} {H H' : Hp} (h : Mk K a D n z i H) (o : Off a H H') (ha : D ≠ a) : Mk K a D n z i H' := by
  obtain ⟨xs, Rp, h1, h2, h3, h4⟩ := h
  exact ⟨xs, Rp, o _ _ h1 ha, DpAll.same (off_dd o) h2, h3, h4⟩
theorem dpAll_snoc {K : PySem.W.Frag} {H : Hp} : ∀ {vs : List V} {ds : List PyData} {v : V} {d : PyData}, DpAll K H vs ds → Dp K H v d → DpAll K H (vs ++ [v]) (ds ++ [d])
  | _, _, _, _, .nil, h => .cons h .nil
  | _, _, _, _, .cons a b, h => .cons a (dpAll_snoc b h)
section
variable {P : Program} {w : World} {K : PySem.W.Frag} {mg : Str → Option Value} {base : Heap}
/-! ### _law_rows -/
def spLawRows (K : PySem.W.Frag) : Sp := fun vs H Q _ => ∃ (a : Addr) (sg : List Nat) (m : Nat), vs = [.ref a, tx sg, .int (m : Int)] ∧ Pot H a ∧ Lets sg ∧ sg.length ≤ 3 ∧ 0 < m ∧ m ≤ 6 ∧
  ∀ (H' : Hp) (p : Addr) (R : List (List Nat)), R.length ≤ m → (∀ k : List Bool, k.length = R.length → M14.Good sg.length R k) → Pot H' a → Off a H H' → Dp K (del H' a) (.ref p) (dLR R) → Q (.ref p) H'
theorem ok_law_rows (T : All K mg) : FnOk P w K mg base CX0 3 T.f_law_rows T.d_law_rows ["_law_pot_here", "_law_signs_here", "_law_most"] (spLawRows K) := by
  refine T.law_rows.F.ok sc_law_rows (fun vs H Q E h => ?_) (fun cdv A outer s H vs Q E hr h => ?_)
  · obtain ⟨a, sg, m, rfl, _⟩ := h
    rfl
  · obtain ⟨a, sg, m, rfl, hp, hl, hl3, hm, hm6, q⟩ := h
    refine ⟨_, pss_cons (ps_par3 rfl sc_law_rows.nd (i := 3) (j := 4) (l := 5) rfl rfl rfl (by decide) (by decide) (by decide) rfl rfl rfl (pa_cons (pe_op op_add pe_int (pe_call (ok_law_draw T) (hr.mono (by decide)) (by rfl) T.law_draw.g T.law_draw.F.kp T.law_draw.b .nil pass0 (pa_cons (pv 0) (pa_cons (pv 2) pa_nil)))) (pa_cons (pe_call (ok_law_draw T) (hr.mono (by decide)) (by rfl) T.law_draw.g T.law_draw.F.kp T.law_draw.b .nil pass0 (pa_cons (pv 0) (pa_cons pe_int pa_nil))) (pa_cons (pe_lst pa_nil) pa_nil))) (by rfl))
      (pss_cons (ps_for PassesOwn.never rfl (pi_range1 rfl T.b_range (pa_cons (pv 3) pa_nil)) (pg_name (i := 6) sc_law_rows.nd rfl (by first | exact Or.inl rfl | exact Or.inr rfl))
        (pss_cons (ps_set (i := 7) sc_law_rows.nd rfl (by first | exact Or.inl rfl | exact Or.inr rfl) (pe_lst pa_nil))
      (pss_cons (ps_for PassesOwn.never rfl (pi_str (pv 1)) (pg_name (i := 8) sc_law_rows.nd rfl (by first | exact Or.inl rfl | exact Or.inr rfl))
        (pss_cons (ps_set (i := 9) sc_law_rows.nd rfl (by first | exact Or.inl rfl | exact Or.inr rfl) (pe_call (ok_law_draw T) (hr.mono (by decide)) (by rfl) T.law_draw.g T.law_draw.F.kp T.law_draw.b .nil pass0 (pa_cons (pv 0) (pa_cons (pv 3) pa_nil))))
      (pss_cons (ps_if (pt_cmpR op_gt (pv 4) pe_int (nomark _)) (pss_one (ps_set (i := 9) sc_law_rows.nd rfl (by first | exact Or.inl rfl | exact Or.inr rfl) (pe_ifExp (pt_cmpR op_eq (pv 4) pe_int (nomark _)) (pe_callB (call_min2 rfl) (by rfl) T.b_min PyProof.Rows.boot_min (pa_cons (pe_op op_add (pv 6) (pe_call (ok_law_draw T) (hr.mono (by decide)) (by rfl) T.law_draw.g T.law_draw.F.kp T.law_draw.b .nil pass0 (pa_cons (pv 0) (pa_cons pe_int pa_nil)))) (pa_cons (pe_op op_sub (pv 3) pe_int) pa_nil))) (pe_op op_add (pv 6) (pe_call (ok_law_draw T) (hr.mono (by decide)) (by rfl) T.law_draw.g T.law_draw.F.kp T.law_draw.b .nil pass0 (pa_cons (pv 0) (pa_cons (pe_op op_sub (pv 3) (pv 6)) pa_nil))))))) pss_nil)
      (pss_one (ps_expr (pe_bm PySem.F.plainAttrs_list PySem.F.slot_list_append PySem.F.type_list_append mt_append (pv 7) (pa_cons (pv 9) pa_nil)))))))
      (pss_one (ps_expr (pe_bm PySem.F.plainAttrs_list PySem.F.slot_list_append PySem.F.type_list_append mt_append (pv 5) (pa_cons (pv 7) pa_nil)))))))
      (pss_one (ps_ret (pe_call (ok_law_turned T) (hr.mono (by decide)) (by rfl) T.law_turned.g T.law_turned.F.kp T.law_turned.b .nil pass0 (pa_cons (pv 0) (pa_cons (pe_call (ok_law_met T) (hr.mono (by decide)) (by rfl) T.law_met.g T.law_met.F.kp T.law_met.b .nil pass0 (pa_cons (pv 5) pa_nil)) pa_nil)))))), ?_⟩
    refine ⟨_, rfl, _, rfl, a, m, rfl, hp, hm, by omega, fun H1 d hd hp1 ho1 => ?_⟩
    obtain ⟨z, hz⟩ : ∃ z : Nat, z = d + 1 := ⟨_, rfl⟩
    have ez : (1 : Int) + (d : Int) = (z : Int) := by omega
    refine ⟨_, _, rfl, rfl, ?_⟩
    dsimp only
    rw [ez]
    refine ⟨_, rfl, a, 4, rfl, hp1, by decide, by decide, fun H2 wy hwy hp2 ho2 => ?_⟩
    refine ⟨by show 0 ≤ sizeLine; decide, fun D nD => ?_⟩
    have naD : a ≠ D := hp2.ne nD
    have o02 := ho1.trans ho2
    refine ⟨_, _, _, rfl, ?_⟩
    refine ⟨_, rfl, _, rfl, by omega, by omega, ?_⟩
    rw [show ((z : Int)).toNat = z by omega]
    refine for_it walk_range (fun i σ H' => ∃ s6 s7 s8 s9, σ = [some (.ref a), some (tx sg), some (.int (m : Int)), some (.int (z : Int)), some (.int (wy : Int)), some (.ref D), s6, s7, s8, s9] ∧ Pot H' a ∧ Off a H H' ∧ Mk K a D sg.length z i H')
      ⟨_, _, _, _, rfl, hp2.up naD, ?_, ⟨[], [], upd_same, .nil, rfl, fun r hr => by cases hr⟩⟩ (fun _ _ _ _ _ => trivial) (fun i x σ H3 H4 hi p y => ?_) (fun σ H3 p => ?_)
    · exact o02.trans (Off.of (same_upd nD))
    · obtain ⟨s6, s7, s8, s9, rfl, hp3, o3, hMk⟩ := p
      obtain ⟨rfl, rfl⟩ := y
      obtain ⟨xs, Rp, hD, hAll, hlen, hRp⟩ := hMk.ex
      refine ⟨by show 0 ≤ sizeLine; decide, fun W nW => ?_⟩
      have naW : a ≠ W := hp3.ne nW
      have nWD : W ≠ D := fun e => by rw [e, hD] at nW; cases nW
      have nW0 : H W = none := o3.free nW hp3
      have nD0 : H D = none := o02.free nD hp2
      have e0 : (0 : Int) + (i : Int) = (i : Int) := by omega
      dsimp only
      rw [e0]
      refine ⟨_, rfl, tS sg, rfl, ?_⟩
      refine for_it walk_tx (fun j σ H' => ∃ (s8 s9 : Option V) (row : List Nat), σ = [some (.ref a), some (tx sg), some (.int (m : Int)), some (.int (z : Int)), some (.int (wy : Int)), some (.ref D), some (.int (i : Int)), some (.ref W), s8, s9] ∧ Pot H' a ∧ Off a H4 H' ∧ H' W = some (.lst (nV row)) ∧ row.length = j ∧ ∀ g ∈ row, g < z)
        ⟨_, _, [], rfl, hp3.up naW, Off.of (same_upd nW), upd_same, rfl, fun g hg => by cases hg⟩ (fun _ _ _ _ _ => trivial) (fun j x σ H5 H6 hj p y => ?_) (fun σ H5 p => ?_)
      · obtain ⟨s8, s9, row, rfl, hp5, o5, hW, hrl, hrz⟩ := p
        obtain ⟨rfl, c, hc, rfl⟩ := y
        refine ⟨_, rfl, _, rfl, a, z, rfl, hp5, by omega, by omega, fun H7 st hst hp7 o7 => ?_⟩
        dsimp only [gName]
        refine seq_to ?_
        refine join (fun σ' H' => ∃ st : Nat, st < z ∧ σ' = [some (.ref a), some (tx sg), some (.int (m : Int)), some (.int (z : Int)), some (.int (wy : Int)), some (.ref D), some (.int (i : Int)), some (.ref W), some (tx [c]), some (.int (st : Int))] ∧ Pot H' a ∧ Off a H4 H' ∧ H' W = some (.lst (nV row))) (fun N hN => ?_) (fun σ' H8 p8 => ?_)
        · have hW7 := o7 _ _ hW naW.symm
          have o57 := o5.trans o7
          refine ⟨_, rfl, _, _, rfl, rfl, ?_⟩
          refine ⟨_, rfl, ?_⟩
          refine ite2 (fun hw => ?_) (fun hw => ?_)
          · refine ⟨_, rfl, rfl, _, rfl, ?_⟩
            refine ite2 (fun hw3 => ?_) (fun hw3 => ?_)
            · refine ⟨_, rfl, _, rfl, a, 2, rfl, hp7, by omega, by omega, fun H8 d2 hd2 hp8 o8 => ?_⟩
              refine ⟨_, _, rfl, rfl, _, rfl, _, _, rfl, rfl, _, _, rfl, ?_⟩
              refine hN _ _ ⟨if z - 1 < i + d2 then z - 1 else i + d2, ?_, ?_, hp8, o57.trans o8, o8 _ _ hW7 naW.symm⟩
              · split <;> omega
              · have : (if (z : Int) - 1 < (i : Int) + (d2 : Int) then (z : Int) - 1 else (i : Int) + (d2 : Int)) = ((if z - 1 < i + d2 then z - 1 else i + d2 : Nat) : Int) := by
                  split <;> split <;> omega
                rw [this]; rfl
            · refine ⟨_, rfl, _, rfl, _, rfl, _, rfl, _, _, rfl, rfl, a, z - i, ?_, hp7, by omega, by omega, fun H8 d2 hd2 hp8 o8 => ?_⟩
              · dsimp only; rw [show (z : Int) - (i : Int) = ((z - i : Nat) : Int) by omega]; rfl
              refine ⟨_, _, rfl, rfl, ?_⟩
              refine hN _ _ ⟨i + d2, by omega, ?_, hp8, o57.trans o8, o8 _ _ hW7 naW.symm⟩
              dsimp only; rw [show (i : Int) + (d2 : Int) = ((i + d2 : Nat) : Int) by omega]; rfl
          · exact hN _ _ ⟨st, hst, rfl, hp7, o57, hW7⟩
        · obtain ⟨st, hst, rfl, hp8, o8, hW8⟩ := p8
          refine ⟨_, rfl, .inl ⟨rfl, _, .inl (.inl hW8)⟩, _, rfl, W, _, _, rfl, rfl, hW8, by rw [nV_len]; exact Nat.lt_of_lt_of_le (by omega : row.length < 1001) (sz (by omega)), ?_⟩
          refine ⟨_, _, row ++ [st], rfl, hp8.up naW, o8.up nW, ?_, ?_, ?_⟩
          · rw [upd_same, nV_snoc]
          · rw [List.length_append, hrl]; rfl
          · intro g hg
            rcases List.mem_append.mp hg with h | h
            · exact hrz g h
            · cases List.mem_singleton.mp h; exact hst
      · obtain ⟨s8, s9, row, rfl, hp5, o5, hW, hrl, hrz⟩ := p
        have hD5 := o5 _ _ hD naD.symm
        refine ⟨_, rfl, .inl ⟨rfl, _, .inl (.inl hD5)⟩, _, rfl, D, _, _, rfl, rfl, hD5, by rw [dpAll_len hAll, List.length_map]; exact Nat.lt_of_lt_of_le (by omega : Rp.length < 1001) (sz (by omega)), ?_⟩
        refine ⟨_, _, _, _, rfl, hp5.up naD, (o3.trans o5).up nD0, ⟨xs ++ [.ref W], Rp ++ [row], upd_same, ?_, ?_, ?_⟩⟩
        · rw [List.map_append]
          refine dpAll_snoc (DpAll.same (fun b o e => ?_) hAll) (.lst (.inl (.inl ?_)) (dpAll_nV row))
          · have := off_dd (D := D) o5 _ _ e
            by_cases h1 : b = a
            · subst h1; rw [del_at] at this; cases this
            · rw [del_ne h1] at this ⊢
              by_cases h2 : b = D
              · subst h2; rw [del_at] at this; cases this
              · rw [del_ne h2] at this ⊢
                rw [upd_ne h2]; exact this
          · rw [del_ne naW.symm, del_ne nWD, upd_ne nWD]; exact hW
        · rw [List.length_append, hlen]; rfl
        · intro r hr
          rcases List.mem_append.mp hr with h | h
          · exact hRp r h
          · cases List.mem_singleton.mp h; exact ⟨hrl, hrz⟩
    · obtain ⟨s6, s7, s8, s9, rfl, hp3, o3, hMk⟩ := p
      obtain ⟨xs, Rp, hD, hAll, hlen, hRp⟩ := hMk.ex
      have hdp : Dp K (del H3 a) (.ref D) (dLR Rp) := .lst (.inl (.inl (by rw [del_ne naD.symm]; exact hD))) (DpAll.same (del_mono a (del_same _ _)) hAll)
      have hv : M14.Val Rp := fun p hp g hg => by rw [hlen]; exact (hRp _ (M14.row_mem hp)).2 g hg
      have hSh : M14.Sht sg.length Rp (List.replicate Rp.length true) := ⟨by omega, by omega, fun r hr => (hRp r hr).1, hv, List.length_replicate⟩
      have hG := M14.good_from hSh hSh.ne
      have ha3 : H3 a ≠ none := by obtain ⟨x, y, e, _⟩ := hp3; rw [e]; exact fun h => by cases h
      refine ⟨_, rfl, _, rfl, _, Rp, a, ha3, rfl, rw_dLR (Dp.same (del_same _ _) hdp), hv, hSh.ne, hSh.few, fun p hp => by rw [(hRp _ (M14.row_mem hp)).1]; exact hl3, fun H4 p4 s4 n4 hd4 => ?_⟩
      refine ⟨a, p4, sg.length, _, _, rfl, hp3.same s4, hd4, hG, hl3, fun H5 p5 od hod ho0 hp5 o5 hd5 => ?_⟩
      refine q _ _ _ ?_ (fun k hk => M74.ren_good hG hod ho0 (by rw [hk]; unfold M14.ren; rw [List.length_map])) hp5 ((o3.trans (Off.of s4)).trans o5) hd5
      unfold M14.ren
      rw [List.length_map, hod.length_eq, List.length_range]
      unfold M14.fromR M14.ren
      rw [List.length_map]
      have := M14.met_len hv hSh.ne
      omega
end
end Lw
namespace Lw
open PySem PySem.Spec PyProof.Rows L3
open L2 hiding del del_same del_ne
/-- a model: letters, rows, kinds -/
def dMo (sg : List Nat) (R : List (List Nat)) (k : List Bool) : PyData := .tuple [.str (tS sg), dLR R, .list (dB k)]
section
variable {P : Program} {w : World} {K : PySem.W.Frag} {mg : Str → Option Value} {base : Heap}
theorem dp_model {H : Hp} {v : V} {sg : List Nat} {R : List (List Nat)} {k : List Bool} (h : Dp K H v (dMo sg R k)) : ∃ (p : Addr) (a b : V), v = .ref p ∧ SqT K H p [tx sg, a, b] ∧ Dp K H a (dLR R) ∧ Dp K H b (.list (dB k)) := by
  obtain ⟨p, xs, rfl, hS, hA⟩ := dp_tuple h
  cases hA with
  | cons h0 t => cases t with
    | cons h1 t => cases t with
      | cons h2 t => cases t; cases h0; exact ⟨p, _, _, rfl, hS, h1, h2⟩
/-! ### _law_model -/
def spLawModel (K : PySem.W.Frag) : Sp := fun vs H Q _ => ∃ (a : Addr) (sg : List Nat) (m : Nat), vs = [.ref a, tx sg, .int (m : Int)] ∧ Pot H a ∧ Lets sg ∧ 0 < m ∧ m ≤ 6 ∧ ∀ H' p R k, M14.Good sg.length R k → R.length ≤ m → Pot H' a → Off a H H' → Dp K (del H' a) (.ref p) (dMo sg R k) → Q (.ref p) H'
theorem ok_law_model (T : All K mg) : FnOk P w K mg base CX0 4 T.f_law_model T.d_law_model ["_law_pot_here", "_law_signs_here", "_law_most"] (spLawModel K) := by
  refine T.law_model.F.ok sc_law_model (fun vs H Q E h => ?_) (fun cdv A outer s H vs Q E hr h => ?_)
  · obtain ⟨a, sg, m, rfl, _⟩ := h
    rfl
  · obtain ⟨a, sg, m, rfl, hp, hl, hm, hm6, q⟩ := h
    refine ⟨_, pss_cons (ps_set (i := 3) sc_law_model.nd rfl (by first | exact Or.inl rfl | exact Or.inr rfl) (pe_call (ok_law_rows T) (hr.mono (by decide)) (by rfl) T.law_rows.g T.law_rows.F.kp T.law_rows.b .nil pass0 (pa_cons (pv 0) (pa_cons (pv 1) (pa_cons (pv 2) pa_nil)))))
      (pss_one (ps_ret (pe_tup (pa_cons (pv 1) (pa_cons (pv 3) (pa_cons (pe_lc (own := [("_law_row", 4)]) (g := gName 4) (tt := tYes) rfl sc_law_model.nd (pi_list (pv 3))
          (blkOk_by (own := [("_law_row", 4)]) (N := ["_law_pot_here", "_law_signs_here", "_law_most", "_law_rows_here", "_law_row"]) (sc := defScope s_law_model) (by decide +kernel))
          (fun _ _ _ _ _ => pg_name (i := 4) sc_law_model.nd rfl (by first | exact Or.inl rfl | exact Or.inr rfl)) (fun _ _ _ _ _ => pts_nil)
          (fun _ _ _ _ _ => (pe_cmpR op_eq (pe_call (ok_law_draw T) (hr.mono (by decide)) (by rfl) T.law_draw.g T.law_draw.F.kp T.law_draw.b .nil pass0 (pa_cons (pv 0) (pa_cons pe_int pa_nil))) pe_int (by rfl)))) pa_nil)))))), ?_⟩
    refine ⟨_, rfl, _, rfl, _, rfl, a, sg, m, rfl, hp, hl, hl.few, hm, hm6, fun H1 D R hRm hG hp1 ho1 hd1 => ?_⟩
    obtain ⟨D', xs, eD, hS1, hA1⟩ := dp_list hd1
    cases eD
    have hxl : xs.length = R.length := by rw [dpAll_len hA1, List.length_map]
    have hS10 : SqL K H1 D xs := sq_same hS1 (del_same _ _)
    refine ⟨_, rfl, _, rfl, _, rfl, D, rfl, ⟨_, hS10⟩, fun D3 nD3 => ?_⟩
    have naD3 : a ≠ D3 := hp1.ne nD3
    refine lc_dp (walk_list (xs := xs)) (fun i acc H' => Pot H' a ∧ Off a H1 H' ∧ ∃ k : List Bool, acc = k.map V.bl ∧ k.length = i) (sz (by omega)) (fun i acc H' p => by obtain ⟨_, _, k, e, h⟩ := p; rw [e, List.length_map]; omega) nD3 ⟨hp1, Off.refl _ _, [], rfl, rfl⟩ (fun i acc H' p _ => sq_same hS1 ((off_del (off_in p.2.1)).trans (del_same _ _))) (fun i x Hh H' acc C N hi p hD3 y c nn => ?_) (fun H7 xs7 hD7 p => ?_)
    · obtain ⟨rfl, _⟩ := y
      obtain ⟨hpp, hoo, k, ek, hk⟩ := p
      refine ⟨rfl, yes_te ⟨_, rfl, a, 2, rfl, pot_in hpp, by decide, by decide, fun H4 g hg hp4 ho4 => ⟨rfl, ?_⟩⟩⟩
      exact c _ _ (ho4 _ _ hD3 naD3.symm) ⟨pot_out hp4 naD3, off_step hoo ho4, k ++ [decide (V.int (g : Int) = V.int 0)], by rw [ek, List.map_append]; rfl, by rw [List.length_append, hk]; rfl⟩
    · obtain ⟨hp7, ho7, k, ek, hk⟩ := p
      subst ek
      have hpH7 := pot_in hp7
      have hoH7 := off_in ho7
      refine ⟨by show 3 ≤ sizeLine; decide, fun t nt => ?_⟩
      have nat : a ≠ t := hpH7.ne nt
      have st := same_upd (o := .tup [tx sg, .ref D, .ref D3]) nt
      have hDp : Dp K (del H7 a) (.ref D) (dLR R) := Dp.same (off_del hoH7) hd1
      have hDk : Dp K (del H7 a) (.ref D3) (.list (dB k)) := .lst (.inl (.inl (by rw [del_ne naD3.symm]; exact hD7))) (dp_bools _)
      refine q _ _ R k (hG k (by omega)) hRm (hpH7.same st) (ho1.trans (hoH7.trans (Off.of st))) ?_
      rw [del_new nat.symm]
      have st2 : Same (del H7 a) (upd (del H7 a) t (.tup [tx sg, .ref D, .ref D3])) := same_upd (by rw [del_ne nat.symm]; exact nt)
      exact .tup (.inl (.inl upd_same)) (.cons (.str _) (.cons (Dp.same st2 hDp) (.cons (Dp.same st2 hDk) .nil)))
/-! ### _law_machine -/
def spLawMachine (K : PySem.W.Frag) (C : Addr) : Sp := fun vs H Q _ => ∃ (sg : List Nat) (v : V) (R : List (List Nat)) (k : List Bool), vs = [v] ∧ Lets sg ∧ Dp K H v (dMo sg R k) ∧ M14.Good sg.length R k ∧ ∀ H' x, Same H H' → H x = none → Mach C K H' x sg R k → Q (.ref x) H'
theorem ok_law_machine (T : All K mg) : FnOk P w K mg base CX0 6 T.f_law_machine T.d_law_machine ["_law_model_here"] (spLawMachine K T.C_Machine) := by
  refine T.law_machine.F.ok sc_law_machine (fun vs H Q E h => ?_) (fun cdv A outer s H vs Q E hr h => ?_)
  · obtain ⟨sg, v, R, k, rfl, _⟩ := h
    rfl
  · obtain ⟨sg, v, R, k, rfl, hl, hd, hG, q⟩ := h
    obtain ⟨p, a, b, rfl, hS, h1, h2⟩ := dp_model hd
    refine ⟨_, pss_one (ps_ret (pe_make ⟨T.mk_Machine, T.Machine_init.m.at_, T.Machine_init.m.fn, T.kp_Machine⟩ (ok_Machine_init T) (hr.mono (by decide)) (by rfl) T.g_Machine T.Machine_init.b .nil pass0 (pa_cons (pe_ix ix_tup (pv 0) pe_int (fun _ _ => rfl)) (pa_cons (pe_ix ix_tup (pv 0) pe_int (fun _ _ => rfl)) (pa_cons (pe_ix ix_tup (pv 0) pe_int (fun _ _ => rfl)) pa_nil))))), ?_⟩
    refine ⟨_, rfl, p, _, _, tx sg, rfl, rfl, hS, rfl, _, rfl, p, _, _, a, rfl, rfl, hS, rfl, _, rfl, p, _, _, b, rfl, rfl, hS, rfl, ?_⟩
    intro x dx nx ndx nxd
    have sU : Same H (upd (upd H dx (.own x)) x (.ins T.C_Machine dx [])) := same_up (same_upd ndx) nx
    exact ⟨x, dx, sg, a, b, R, k, rfl, upd_same, hl, (rw_dLR h1).same sU, (sq_kinds h2).same sU, hG, fun H' hk' hM' => ⟨rfl, q H' x (Same.made nx ndx hk') nx hM'⟩⟩
/-! ### _law_takes -/
def spLawTakes (K : PySem.W.Frag) : Sp := fun vs H Q _ => ∃ (sg : List Nat) (v : V) (t : List Nat) (R : List (List Nat)) (k : List Bool), vs = [v, tx t] ∧ Dp K H v (dMo sg R k) ∧ M14.Sht sg.length R k ∧ (∀ c ∈ t, c ∈ sg) ∧ Q (.bl (M14.kAt k (M14.led sg R 0 t))) H
theorem ok_law_takes (T : All K mg) : FnOk P w K mg base CX0 1 T.f_law_takes T.d_law_takes ["_law_model_here", "_law_text"] (spLawTakes K) := by
  refine T.law_takes.F.ok sc_law_takes (fun vs H Q E h => ?_) (fun cdv A outer s H vs Q E hr h => ?_)
  · obtain ⟨sg, v, t, R, k, rfl, _⟩ := h
    rfl
  · obtain ⟨sg, v, t, R, k, rfl, hd, hG, ht, q⟩ := h
    obtain ⟨p, a, b, rfl, hS, h1, h2⟩ := dp_model hd
    have hR := rw_dLR h1
    have hk := sq_kinds h2
    refine ⟨_, pss_cons (ps_set (i := 2) sc_law_takes.nd rfl (by first | exact Or.inl rfl | exact Or.inr rfl) pe_int)
      (pss_cons (ps_for PassesOwn.never rfl (pi_str (pv 1)) (pg_name (i := 3) sc_law_takes.nd rfl (by first | exact Or.inl rfl | exact Or.inr rfl))
        (pss_one (ps_set (i := 2) sc_law_takes.nd rfl (by first | exact Or.inl rfl | exact Or.inr rfl) (pe_ix ix_list (pe_ix ix_list (pe_ix ix_tup (pv 0) pe_int (fun _ _ => rfl)) (pv 2) (fun _ _ => rfl)) (pe_bm PySem.F.plainAttrs_str PySem.F.slot_str_index PySem.F.type_str_index mt_indexT (pe_ix ix_tup (pv 0) pe_int (fun _ _ => rfl)) (pa_cons (pv 3) pa_nil)) (fun _ _ => rfl)))))
      (pss_one (ps_ret (pe_ix ix_list (pe_ix ix_tup (pv 0) pe_int (fun _ _ => rfl)) (pv 2) (fun _ _ => rfl))))), ?_⟩
    refine ⟨_, rfl, tS t, rfl, for_it walk_tx (fun i σ H' => ∃ c, σ = [some (.ref p), some (tx t), some (.int ((M14.led sg R 0 (t.take i) : Nat) : Int)), c] ∧ H' = H) ⟨none, rfl, rfl⟩ (fun _ _ _ _ _ => trivial) (fun i x σ H1 H2 hi pp y => ?_) (fun σ H' pp => ?_)⟩
    · obtain ⟨c0, rfl, rfl⟩ := pp
      obtain ⟨rfl, c, hc, rfl⟩ := y
      have hcs := ht c (List.mem_of_getElem? hc)
      have hlt : M14.led sg R 0 (t.take i) < R.length := M14.led_lt hG hG.ne fun x hx => ht x (List.mem_of_mem_take hx)
      obtain ⟨g, hg, hgl, hgd⟩ := M14.led_step hG hlt hcs
      obtain ⟨b0, ys, eb, hSb, hAb⟩ := dp_list h1
      subst eb
      have hyl : ys.length = R.length := by rw [dpAll_len hAb, List.length_map]
      obtain ⟨yv, hyv⟩ : ∃ y, ys[M14.led sg R 0 (t.take i)]? = some y := ⟨_, List.getElem?_eq_getElem (by omega)⟩
      obtain ⟨d, hd1, hdp⟩ := dpAll_back hAb hyv
      rw [List.getElem?_map, M14.row_at hlt] at hd1
      cases hd1
      obtain ⟨c0', zs, ez, hSz, hAz⟩ := dp_list hdp
      subst ez
      rw [dpAll_nats hAz] at hSz
      refine ⟨_, rfl, p, _, ((1 : Nat) : Int), .ref b0, rfl, rfl, hS, rfl, _, rfl, b0, ys, _, .ref c0', rfl, rfl, hSb, atI_nat hyv, ?_⟩
      refine ⟨_, rfl, p, _, ((0 : Nat) : Int), tx sg, rfl, rfl, hS, rfl, rfl, _, rfl, sg, c, rfl, rfl, hcs, ?_⟩
      refine ⟨c0', _, _, .int (g : Nat), rfl, rfl, hSz, atI_nat (nV_get hg), ?_⟩
      refine ⟨some (tx [c]), ?_, rfl⟩
      rw [List.take_add_one, hc]
      show _ = [some (V.ref p), some (tx t), some (V.int ((M14.led sg R 0 (t.take i ++ [c]) : Nat) : Int)), _]
      rw [M14.led_snoc, hgd]
      rfl
    · obtain ⟨c0, rfl, rfl⟩ := pp
      rw [List.take_length]
      have hlt : M14.led sg R 0 t < R.length := M14.led_lt hG hG.ne ht
      obtain ⟨b0, ys, eb, hSb, hAb⟩ := dp_list h2
      subst eb
      rw [dpAll_bools hAb] at hSb
      refine ⟨_, rfl, p, _, ((2 : Nat) : Int), .ref b0, rfl, rfl, hS, rfl, _, rfl, b0, _, _, .bl _, rfl, rfl, hSb, atI_nat (kAt_get (by rw [hG.kin]; exact hlt)), q⟩
/-! ### _law_signs -/
def spSigns : Sp := fun vs H Q _ => ∃ a : Addr, vs = [.ref a] ∧ Pot H a ∧ ∀ (H' : Hp) (sg : List Nat), Lets sg → Pot H' a → Off a H H' → Q (tx sg) H'
theorem sg_lit {v : V} (h : v ∈ [V.str "a", .str "k", .str "ab", .str "ab", .str "bz", .str "cx", .str "abc", .str "lmz"]) : ∃ sg, v = tx sg ∧ Lets sg := by
  have key : ∀ (s : Str) (sg : List Nat), tS sg = s → Lets sg → ∃ sg, V.str s = tx sg ∧ Lets sg := fun s sg e h => ⟨sg, congrArg V.str e.symm, h⟩
  simp only [List.mem_cons, List.not_mem_nil, or_false] at h
  rcases h with rfl | rfl | rfl | rfl | rfl | rfl | rfl | rfl
  · exact key _ [97] (by decide +kernel) ⟨by decide, by decide, by decide, by decide⟩
  · exact key _ [107] (by decide +kernel) ⟨by decide, by decide, by decide, by decide⟩
  · exact key _ [97, 98] (by decide +kernel) ⟨by decide, by decide, by decide, by decide⟩
  · exact key _ [97, 98] (by decide +kernel) ⟨by decide, by decide, by decide, by decide⟩
  · exact key _ [98, 122] (by decide +kernel) ⟨by decide, by decide, by decide, by decide⟩
  · exact key _ [99, 120] (by decide +kernel) ⟨by decide, by decide, by decide, by decide⟩
  · exact key _ [97, 98, 99] (by decide +kernel) ⟨by decide, by decide, by decide, by decide⟩
  · exact key _ [108, 109, 122] (by decide +kernel) ⟨by decide, by decide, by decide, by decide⟩
theorem ok_law_signs (T : All K mg) : FnOk P w K mg base CX0 3 T.f_law_signs T.d_law_signs ["_law_pot_here"] spSigns := by
  refine T.law_signs.F.ok sc_law_signs (fun vs H Q E h => ?_) (fun cdv A outer s H vs Q E hr h => ?_)
  · obtain ⟨a, rfl, _⟩ := h
    rfl
  · obtain ⟨a, rfl, hp, q⟩ := h
    refine ⟨_, pss_one (ps_ret (pe_call (ok_law_pick T) (hr.mono (by decide)) (by rfl) T.law_pick.g T.law_pick.F.kp T.law_pick.b .nil pass0 (pa_cons (pv 0) (pa_cons (pe_lst (pa_cons pe_str (pa_cons pe_str (pa_cons pe_str (pa_cons pe_str (pa_cons pe_str (pa_cons pe_str (pa_cons pe_str (pa_cons pe_str pa_nil))))))))) pa_nil)))), ?_⟩
    refine ⟨_, rfl, by show 8 ≤ sizeLine; decide, fun p np => ?_⟩
    refine ⟨a, _, rfl, hp.up (hp.ne np), .inr ⟨p, _, rfl, (hp.ne np).symm, .inl (.inl upd_same), by simp, by show 8 ≤ 1000; decide, fun H1 vsg hvm hp1 ho1 => ?_⟩⟩
    obtain ⟨sg, rfl, hl⟩ := sg_lit hvm
    exact q _ sg hl hp1 ((Off.of (same_upd np)).trans ho1)
/-! ### _law_words -/
def spWords (K : PySem.W.Frag) : Sp := fun vs H Q _ => ∃ (sg : List Nat) (m : Nat), vs = [tx sg, .int (m : Int)] ∧ sg.length ≤ 3 ∧ m ≤ 5 ∧ ∀ (H' : Hp) (p : Addr) (ts : List (List Nat)), Same H H' → H p = none → H' p = some (.lst (ts.map tx)) → ts.length ≤ 364 → (∀ t ∈ ts, t.length ≤ 5 ∧ ∀ c ∈ t, c ∈ sg) → Q (.ref p) H'
theorem pow3 {i : Nat} (h : i ≤ 5) : 3 ^ i ≤ 243 := by
  have h1 : 3 ^ i ≤ 3 ^ 5 := Nat.pow_le_pow_right (by decide) h
  have e : 3 ^ 5 = 243 := by decide
  omega
theorem ok_law_words (T : All K mg) : FnOk P w K mg base CX0 1 T.f_law_words T.d_law_words ["_law_signs_here", "_law_most"] (spWords K) := by
  refine T.law_words.F.ok sc_law_words (fun vs H Q E h => ?_) (fun cdv A outer s H vs Q E hr h => ?_)
  · obtain ⟨sg, m, rfl, _⟩ := h
    rfl
  · obtain ⟨sg, m, rfl, hsg, hm, q⟩ := h
    refine ⟨_, pss_cons (ps_par rfl sc_law_words.nd (i := 2) (j := 3) rfl rfl (by decide) rfl rfl (pa_cons (pe_lst (pa_cons pe_str pa_nil)) (pa_cons (pe_lst (pa_cons pe_str pa_nil)) pa_nil)) (by rfl))
      (pss_cons (ps_for PassesOwn.never rfl (pi_range1 rfl T.b_range (pa_cons (pv 1) pa_nil)) (pg_name (i := 4) sc_law_words.nd rfl (by first | exact Or.inl rfl | exact Or.inr rfl))
        (pss_cons (ps_set (i := 5) sc_law_words.nd rfl (by first | exact Or.inl rfl | exact Or.inr rfl) (pe_lst pa_nil))
      (pss_cons (ps_for PassesOwn.never rfl (pi_list (pv 3)) (pg_name (i := 6) sc_law_words.nd rfl (by first | exact Or.inl rfl | exact Or.inr rfl))
        (pss_one (ps_expr (pe_bm PySem.F.plainAttrs_list PySem.F.slot_list_extend PySem.F.type_list_extend mt_extend (pv 5) (pa_cons (pe_lc (own := [("_law_sign", 7)]) (g := gName 7) (tt := tYes) rfl sc_law_words.nd (pi_str (pv 0))
          (blkOk_by (own := [("_law_sign", 7)]) (N := ["_law_signs_here", "_law_most", "_law_found", "_law_last", "_law_turn", "_law_longer", "_law_word", "_law_sign"]) (sc := defScope s_law_words) (by decide +kernel))
          (fun _ _ _ _ _ => pg_name (i := 7) sc_law_words.nd rfl (by first | exact Or.inl rfl | exact Or.inr rfl)) (fun _ _ _ _ _ => pts_nil)
          (fun _ _ _ _ _ => (pe_op op_addT (pv 6) (pv 7)))) pa_nil)))))
      (pss_cons (ps_set (i := 3) sc_law_words.nd rfl (by first | exact Or.inl rfl | exact Or.inr rfl) (pv 5))
      (pss_one (ps_expr (pe_bm PySem.F.plainAttrs_list PySem.F.slot_list_extend PySem.F.type_list_extend mt_extend (pv 2) (pa_cons (pv 3) pa_nil))))))))
      (pss_one (ps_ret (pv 2)))), ?_⟩
    refine ⟨by show 1 ≤ sizeLine; decide, fun F nF => ⟨by show 1 ≤ sizeLine; decide, fun L nL => ⟨_, _, rfl, ?_⟩⟩⟩
    have nFL : F ≠ L := fun e => by rw [← e, upd_same] at nL; cases nL
    have nL0 : H L = none := by rw [upd_ne nFL.symm] at nL; exact nL
    refine ⟨_, rfl, _, rfl, by omega, by omega, ?_⟩
    rw [show ((m : Int)).toNat = m by omega]
    refine for_it walk_range (fun i σ H' => ∃ (L : Addr) (ts us : List (List Nat)) (x4 x5 x6 : Option V), σ = [some (tx sg), some (.int (m : Int)), some (.ref F), some (.ref L), x4, x5, x6, none] ∧ Same H H' ∧ H L = none ∧ F ≠ L ∧ H' F = some (.lst (ts.map tx)) ∧ H' L = some (.lst (us.map tx)) ∧ us.length ≤ 3 ^ i ∧ 2 * ts.length + 1 ≤ 3 ^ (i + 1) ∧ (∀ t ∈ ts, t.length ≤ i ∧ ∀ c ∈ t, c ∈ sg) ∧ (∀ t ∈ us, t.length ≤ i ∧ ∀ c ∈ t, c ∈ sg))
      ⟨L, [[]], [[]], none, none, none, rfl, same_up (same_upd nF) nL0, nL0, nFL, by rw [upd_ne nFL, upd_same]; rfl, upd_same, by decide, by decide, ?_, ?_⟩ (fun _ _ _ _ _ => trivial) (fun i x σ H1 H2 hi p y => ?_) (fun σ H1 p => ?_)
    · intro t ht
      rw [List.mem_singleton.mp ht]
      exact ⟨Nat.le_refl _, fun c hc => by cases hc⟩
    · intro t ht
      rw [List.mem_singleton.mp ht]
      exact ⟨Nat.le_refl _, fun c hc => by cases hc⟩
    · obtain ⟨L, ts, us, x4, x5, x6, rfl, sm, nL, nFL, hF, hL, hus, hts, tok, uok⟩ := p
      obtain ⟨rfl, rfl⟩ := y
      have hi5 : i ≤ 4 := by omega
      have hp3 := pow3 (i := i) (by omega)
      have hp4 := pow3 (i := i + 1) (by omega)
      have e3 : 3 ^ (i + 1) = 3 * 3 ^ i := by rw [Nat.pow_succ]; omega
      have e4 : 3 ^ (i + 1 + 1) = 3 * 3 ^ (i + 1) := by rw [Nat.pow_succ]; omega
      refine ⟨by show 0 ≤ sizeLine; decide, fun W nW => ?_⟩
      have nW0 := sm.free nW
      have nLW : L ≠ W := ne_of_none hL nW
      have nFW : F ≠ W := ne_of_none hF nW
      refine ⟨_, rfl, L, rfl, ⟨_, .inl (.inl (by rw [upd_ne nLW]; exact hL))⟩, for_it (walk_list (xs := us.map tx)) (fun j σ H' => ∃ (ws : List (List Nat)) (x6 : Option V), σ = [some (tx sg), some (.int (m : Int)), some (.ref F), some (.ref L), some (.int (0 + (i : Int))), some (.ref W), x6, none] ∧ Same H H' ∧ H' F = some (.lst (ts.map tx)) ∧ H' L = some (.lst (us.map tx)) ∧ H' W = some (.lst (ws.map tx)) ∧ ws.length ≤ 3 * j ∧ ∀ t ∈ ws, t.length ≤ i + 1 ∧ ∀ c ∈ t, c ∈ sg)
        ⟨[], x6, rfl, same_up sm nW0, by rw [upd_ne nFW]; exact hF, by rw [upd_ne nLW]; exact hL, upd_same, Nat.zero_le _, fun t ht => by cases ht⟩ (fun j σ H' _ p => by obtain ⟨_, _, _, _, _, h, _⟩ := p; exact .inl (.inl h)) (fun j x σ H3 H4 hj p y => ?_) (fun σ H3 p => ?_)⟩
      · obtain ⟨ws, x6, rfl, sm3, hF3, hL3, hW3, hws, wok⟩ := p
        obtain ⟨rfl, y⟩ := y
        rw [List.getElem?_map] at y
        obtain ⟨t, ht, rfl⟩ := Option.map_eq_some_iff.mp y
        obtain ⟨ht1, ht2⟩ := uok t (List.mem_of_getElem? ht)
        rw [List.length_map] at hj
        refine ⟨_, rfl, .inl ⟨rfl, _, .inl (.inl hW3)⟩, _, rfl, tS sg, rfl, fun D nD => ?_⟩
        have nD0 := sm3.free nD
        refine lc_gen walk_tx (Same H4) (fun a acc => acc = ((sg.take a).map fun c => t ++ [c]).map tx) (sz (by omega)) (fun a acc e => by rw [e, List.length_map, List.length_map, List.length_take]; omega) rfl (same_upd nD) (fun _ _ h => same_up h nD) (fun _ _ => trivial) (fun a x H5 H6 acc C N ha r hD hacc y c n => ?_) (fun H5 ys r hD hacc => ?_)
        · obtain ⟨rfl, ch, hch, rfl⟩ := y
          refine ⟨rfl, yes_te ⟨_, rfl, _, rfl, t, [ch], rfl, rfl, sz (by simp; omega), ?_⟩⟩
          refine c _ _ r hD ?_
          rw [hacc, List.take_add_one, hch, List.map_append, List.map_append]
          rfl
        · subst hacc
          rw [List.take_length] at hD
          have hW5 := r _ _ hW3
          refine ⟨W, D, _, _, rfl, rfl, hW5, hD, by rw [List.length_map, List.length_map, List.length_map]; exact sz (by omega), ?_⟩
          rw [← List.map_append]
          have nWD : W ≠ D := ne_of_none hW3 nD
          refine ⟨ws ++ sg.map fun c => t ++ [c], _, rfl, same_up (sm3.trans r) nW0, by rw [upd_ne nFW]; exact r _ _ hF3, by rw [upd_ne nLW]; exact r _ _ hL3, upd_same, by rw [List.length_append, List.length_map]; omega, fun z hz => ?_⟩
          rcases List.mem_append.mp hz with hz | hz
          · exact wok z hz
          · obtain ⟨c, hc, rfl⟩ := List.mem_map.mp hz
            refine ⟨by simp; omega, fun x hx => ?_⟩
            rcases List.mem_append.mp hx with hx | hx
            · exact ht2 x hx
            · rw [List.mem_singleton.mp hx]; exact hc
      · obtain ⟨ws, x6, rfl, sm3, hF3, hL3, hW3, hws, wok⟩ := p
        rw [List.length_map] at hws
        refine ⟨_, rfl, _, rfl, .inl ⟨rfl, _, .inl (.inl hF3)⟩, _, rfl, F, W, _, _, rfl, rfl, hF3, hW3, by rw [List.length_map, List.length_map]; exact sz (by omega), ?_⟩
        rw [← List.map_append]
        refine ⟨W, ts ++ ws, ws, _, _, _, rfl, same_up sm3 nF, nW0, nFW, upd_same, by rw [upd_ne nFW.symm]; exact hW3, by omega, by rw [List.length_append]; omega, fun z hz => ?_, wok⟩
        rcases List.mem_append.mp hz with hz | hz
        · exact ⟨Nat.le_succ_of_le (tok z hz).1, (tok z hz).2⟩
        · exact wok z hz
    · obtain ⟨L, ts, us, x4, x5, x6, rfl, sm, nL, nFL, hF, hL, hus, hts, tok, uok⟩ := p
      have hp6 : 3 ^ (m + 1) ≤ 729 := by
        have : 3 ^ (m + 1) ≤ 3 ^ 6 := Nat.pow_le_pow_right (by decide) (by omega)
        have e : 3 ^ 6 = 729 := by decide
        omega
      exact ⟨_, rfl, q _ F ts sm nF hF (by omega) fun t ht => ⟨Nat.le_trans (tok t ht).1 hm, (tok t ht).2⟩⟩
/-! ### _law_turned_model -/
theorem dN_tk {k : List Bool} {S : List Nat} {i : Nat} {b : Bool} (h : k[i]? = some b) : M74.tk (k.take (i + 1)) S = M74.tk (k.take i) S ++ [b != decide (i ∈ S)] := by
  have hi := (List.getElem?_eq_some_iff.mp h).1
  have l1 : (k.take (i + 1)).length = i + 1 := by rw [List.length_take]; omega
  have l0 : (k.take i).length = i := by rw [List.length_take]; omega
  unfold M74.tk
  rw [l1, l0, List.range_succ, List.map_append]
  congr 1
  · refine List.map_congr_left fun j hj => ?_
    have hj := List.mem_range.mp hj
    unfold M14.kAt
    simp only [List.getD_eq_getElem?_getD]
    rw [List.getElem?_take_of_lt (by omega), List.getElem?_take_of_lt hj]
  · simp only [List.map_cons, List.map_nil]
    congr 1
    unfold M14.kAt
    rw [List.getD_eq_getElem?_getD, List.getElem?_take_of_lt (by omega), h]
    rfl
def spTurnedModel (K : PySem.W.Frag) : Sp := fun vs H Q _ => ∃ (sg : List Nat) (v : V) (b : Addr) (S : List Nat) (R : List (List Nat)) (k : List Bool), vs = [v, .ref b] ∧ Dp K H v (dMo sg R k) ∧ SqL K H b (nV S) ∧ k.length ≤ 40 ∧ ∀ H' x, Same H H' → H x = none → Dp K H' (.ref x) (dMo sg R (M74.tk k S)) → Q (.ref x) H'
theorem ok_law_turned_model (T : All K mg) : FnOk P w K mg base CX0 1 T.f_law_turned_model T.d_law_turned_model ["_law_model_here", "_law_spots"] (spTurnedModel K) := by
  refine T.law_turned_model.F.ok sc_law_turned_model (fun vs H Q E h => ?_) (fun cdv A outer s H vs Q E hr h => ?_)
  · obtain ⟨sg, v, b, S, R, k, rfl, _⟩ := h
    rfl
  · obtain ⟨sg, v, b, S, R, k, rfl, hd, hSb, hk, q⟩ := h
    obtain ⟨p, va, vb, rfl, hS, h1, h2⟩ := dp_model hd
    refine ⟨_, pss_one (ps_ret (pe_tup (pa_cons (pe_ix ix_tup (pv 0) pe_int (fun _ _ => rfl)) (pa_cons (pe_ix ix_tup (pv 0) pe_int (fun _ _ => rfl)) (pa_cons (pe_lc (own := [("_law_spot", 2), ("_law_kind", 3)]) (tt := tYes) rfl sc_law_turned_model.nd (pi_enumS rfl T.b_enumerate (pa_cons (pe_ix ix_tup (pv 0) pe_int (fun _ _ => rfl)) pa_nil))
          (blkOk_by (own := [("_law_spot", 2), ("_law_kind", 3)]) (N := ["_law_model_here", "_law_spots", "_law_spot", "_law_kind"]) (sc := defScope s_law_turned_model) (by decide +kernel))
          (fun _ _ _ _ _ => (pg_tupK (K := K) (n := 2) rfl rfl (pgs_cons (pg_name (i := 2) sc_law_turned_model.nd rfl (Or.inl rfl)) (pgs_cons (pg_name (i := 3) sc_law_turned_model.nd rfl (Or.inl rfl)) pgs_nil)) rfl)) (fun _ _ _ _ _ => pts_nil)
          (fun _ _ _ _ _ => (pe_cmpR op_ne (pv 3) (pe_cmpR (op_inNK (K := K) rfl) (pv 2) (pv 1) (by rfl)) (by rfl)))) pa_nil))))), ?_⟩
    refine ⟨_, rfl, p, _, ((0 : Nat) : Int), tx sg, rfl, rfl, hS, rfl, _, rfl, p, _, ((1 : Nat) : Int), va, rfl, rfl, hS, rfl, ?_⟩
    obtain ⟨b1, zs, rfl, hSk, hAk⟩ := dp_list h2
    rw [dpAll_bools hAk] at hSk
    refine ⟨_, rfl, p, _, ((2 : Nat) : Int), .ref b1, rfl, rfl, hS, rfl, .L b1, k.map V.bl, rfl, hSk, fun D nD => ?_⟩
    refine lc_gen (walk_enumS (y := .L b1) (xs := k.map V.bl)) (Same H) (fun i acc => acc = (M74.tk (k.take i) S).map V.bl) (sz (by rw [List.length_map]; omega)) (fun i acc e => by rw [e, List.length_map, M74.tk_len, List.length_take]; exact Nat.min_le_left _ _) rfl (same_upd nD) (fun _ _ h => same_up h nD) (fun _ h => sq_same hSk h) (fun i x H1 H2 acc C N hi rs hD ha y c nn => ?_) (fun H1 ys s1 hD ha => ?_)
    · obtain ⟨Tp, v1, v2, rfl, nT, rfl, e1, e2⟩ := y
      cases e1
      have e2 : (k.map V.bl)[i]? = some v2 := e2
      rw [List.getElem?_map] at e2
      obtain ⟨kb, hkb, rfl⟩ := Option.map_eq_some_iff.mp e2
      have nTD : D ≠ Tp := ne_of_none hD nT
      have rs2 := same_up (o := .tup [.int (i : Nat), .bl kb]) rs (rs.free nT)
      have hD2 : (upd H1 Tp (.tup [.int (i : Nat), .bl kb])) D = some (.lst acc) := by rw [upd_ne nTD]; exact hD
      refine ⟨Tp, _, rfl, .inl (.inl upd_same), rfl, _, _, rfl, _, _, rfl, rfl, rfl, yes_te ⟨_, rfl, _, rfl, _, rfl, S, i, rfl, sq_list (sq_same hSb rs2), rfl, c _ _ rs2 hD2 ?_⟩⟩
      rw [ha, dN_tk hkb, List.map_append]
      refine congrArg (_ ++ ·) ?_
      show [V.bl (!decide (V.bl kb = V.bl (decide (i ∈ S))))] = [V.bl (kb != decide (i ∈ S))]
      cases kb <;> cases decide (i ∈ S) <;> rfl
    subst ha
    rw [List.length_map, List.take_length] at hD
    refine ⟨by show 3 ≤ sizeLine; decide, fun t nt => ?_⟩
    have st := same_upd (o := .tup [tx sg, va, .ref D]) nt
    refine q _ t (s1.trans st) (s1.free nt) ?_
    exact .tup (.inl (.inl upd_same)) (.cons (.str _) (.cons (Dp.same (s1.trans st) h1) (.cons (Dp.same st (.lst (.inl (.inl hD)) (dp_bools _))) .nil)))
end
end Lw
namespace Lw
open PySem PySem.Spec PyProof.Rows L3
open L2 hiding del del_same del_ne
section
variable {w : World} {K : PySem.W.Frag} {mg : Str → Option Value} {base : Heap}
def sameM (sg sg' : List Nat) (R R' : List (List Nat)) (k k' : List Bool) : Bool := decide (sg = sg') && (decide (R = R') && decide (k = k'))
theorem sameM_self (sg : List Nat) (R : List (List Nat)) (k : List Bool) : sameM sg sg R R k k = true := by simp [sameM]
/-- == and != of two machines -/
theorem eqM (T : All K mg) {H : Hp} {a b : Addr} {sg sg' : List Nat} {R R' : List (List Nat)} {k k' : List Bool} (ha : Mach T.C_Machine K H a sg R k) (hb : Mach T.C_Machine K H b sg' R' k') {Z : Bool → Hp → Prop} (q : Z (sameM sg sg' R R' k k') H) :
    ∃ a' dx fs t, V.ref a = .ref a' ∧ H a' = some (.ins T.C_Machine dx fs) ∧ TyX K H (.ref b) t ∧ PySem.W.notFirst K T.C_Machine t = true ∧ spEqM K T.C_Machine [.ref a', .ref b] H (fun v H' => ∃ b : Bool, v = .bl b ∧ Z b H') E0 := by
  obtain ⟨dx, r, qq, hat, _⟩ := ha.at_
  exact ⟨a, dx, _, _, rfl, hat, ty_mach T hb, first_own, a, .ref b, sg, R, k, rfl, ha, .inl ⟨b, sg', R', k', rfl, hb, _, rfl, q⟩⟩
theorem neM (T : All K mg) {H : Hp} {a b : Addr} {sg sg' : List Nat} {R R' : List (List Nat)} {k k' : List Bool} (ha : Mach T.C_Machine K H a sg R k) (hb : Mach T.C_Machine K H b sg' R' k') {Z : Bool → Hp → Prop} (q : Z (sameM sg sg' R R' k k') H) :
    ∃ a' dx fs t, V.ref a = .ref a' ∧ H a' = some (.ins T.C_Machine dx fs) ∧ TyX K H (.ref b) t ∧ PySem.W.notFirst K T.C_Machine t = true ∧ spEqM K T.C_Machine [.ref a', .ref b] H (fun v H' => ∃ b : Bool, v = .bl b ∧ Z b H') E0 := by
  obtain ⟨dx, r, qq, hat, _⟩ := ha.at_
  exact ⟨a, dx, _, _, rfl, hat, ty_mach T hb, first_own, a, .ref b, sg, R, k, rfl, ha, .inl ⟨b, sg', R', k', rfl, hb, _, rfl, q⟩⟩
/-! ### _law_led -/
def spLawLed (K : PySem.W.Frag) (C : Addr) : Sp := fun vs H Q _ => ∃ (a : Addr) (p c g : Nat) (sg : List Nat) (R : List (List Nat)) (k : List Bool), vs = [.ref a, .int (p : Int), tx [c], .int (g : Int)] ∧ Mach C K H a sg R k ∧ p < R.length ∧ c ∈ sg ∧ g < R.length ∧
  (M14.Good sg.length (M74.rd R p (sg.idxOf c) g) k → NewM K C H Q sg (M74.rd R p (sg.idxOf c) g) k) ∧
  ((¬ M14.Good sg.length (M74.rd R p (sg.idxOf c) g) k) → ∀ H', Same H H' → Q .non H')
theorem ok_law_led (T : All K mg) : FnOk PW w K mg base CX0 8 T.f_law_led T.d_law_led ["_law_net", "_law_spot", "_law_sign", "_law_goal_now"] (spLawLed K T.C_Machine) := by
  refine T.law_led.F.ok sc_law_led (fun vs H Q E h => ?_) (fun cdv A outer s H vs Q E hr h => ?_)
  · obtain ⟨a, p, c, g, sg, R, k, rfl, _⟩ := h
    rfl
  · obtain ⟨a, p, c, g, sg, R, k, rfl, hM, hp, hc, hg, q, qE⟩ := h
    refine ⟨_, (pss_cons (ps_set (i := 4) sc_law_led.nd rfl (Or.inl rfl) pe_non)
      (pss_cons (ps_try_as (i := 5) (tb := fun W => tAsg (tCallS (spRedir K T.C_Machine T.C_NotComeTo) (WE W) (tCons (tVar 0) (tCons (tVar 1) (tCons (tVar 2) (tCons (tVar 3) tNil))))) (gName 4)) (ts := fun _ _ _ => tAsg (tC .non) (gName 4)) (Wout := fun _ _ _ _ => False) rfl rfl sc_law_led.nd rfl rfl ⟨rfl, by decide, Or.inl T.g_NotComeTo⟩ takes0
          (fun W pn xe tk _ => pss_one (ps_set (i := 4) sc_law_led.nd rfl (Or.inl rfl) (by exact (pe_callS (ok_redirected T) (hr.mono (by decide)) rfl T.redirected.g T.redirected.F.kp T.redirected.b (fun σ => passAt tk σ) (by exact (pa_cons (pv 0) (pa_cons (pv 1) (pa_cons (pv 2) (pa_cons (pv 3) pa_nil)))))))))
          (fun a oe cls d pn hz hf => pss_one (ps_set (i := 4) sc_law_led.nd rfl (Or.inl rfl) pe_non)))
      (pss_one (ps_ret (pv 4))))), ?_⟩
    refine ⟨_, rfl, _, rfl, _, rfl, _, rfl, a, p, c, g, sg, R, k, rfl, hM, hp, hc, hg, fun hGood H' x s1 nx hM' => ?_, fun hno H' d s1 => ?_⟩
    · exact ⟨_, rfl, q hGood H' x s1 nx hM'⟩
    · exact ⟨true, T.te_NotComeTo, (fun _ aa ha => ⟨_, rfl, qE hno H' s1⟩), (fun z => Bool.noConfusion z)⟩
/-! ### _law_led_right -/
def spLawLedRight (K : PySem.W.Frag) (C : Addr) : Sp := fun vs H Q _ => ∃ (a b d : Addr) (p c g o : Nat) (sg : List Nat) (R : List (List Nat)) (k : List Bool), vs = [.ref a, .ref b, .int (p : Int), tx [c], .ref d] ∧ Mach C K H a sg R k ∧ Mach C K H b sg (M74.rd R p (sg.idxOf c) g) k ∧ p < R.length ∧ c ∈ sg ∧ g < R.length ∧ (M14.row R p)[sg.idxOf c]? = some o ∧ SqL K H d (nV [g, o]) ∧ ∀ H', Same H H' → Q (.bl true) H'
theorem ok_law_led_right (T : All K mg) : FnOkG PW w K mg base CX0 9 T.f_law_led_right T.d_law_led_right ["_law_net", "_law_told", "_law_spot", "_law_sign", "_law_goals"] (spLawLedRight K T.C_Machine) := by
  refine okG T.law_led_right.F sc_law_led_right (fun vs H Q E h => ?_) (fun cdv A outer s H vs Q E hr hG h => ?_)
  · obtain ⟨a, b, d, p, c, g, o, sg, R, k, rfl, _⟩ := h
    rfl
  · obtain ⟨a, b, d, p, c, g, o, sg, R, k, rfl, hMa, hMb, hp, hc, hg, ho, hd, q⟩ := h
    refine ⟨_, pss_cons (ps_if (pt_cmpR (op_neOwn (FnOkG.of (ok_Machine_eq T)) (hr.mono (by decide)) hG T.Machine_eq.b T.Machine_eq.m (mro_obj T.mk_Machine) T.ne_Machine) (pe_callK0 (FnOkG.of (ok_redirected T)) (hr.mono (by decide)) hG (by rfl) T.redirected.g T.redirected.F.kp (kb4 (a := "machine") (b := "place") (c := "letter") (d := "goal") T.redirected.F (fun _ _ _ _ _ _ _ _ _ _ => rfl)) passE0 (pk_cons (pe_ix ix_list (pv 4) pe_int (fun _ _ => rfl)) (pk_cons (pv 3) (pk_cons (pv 2) (pk_cons (pv 0) pk_nil))))) (pv 1) (nomark _)) (pss_one ps_never) pss_nil)
      (pss_one (ps_ret (pe_cmpR (op_eqOwn (FnOkG.of (ok_Machine_eq T)) (hr.mono (by decide)) hG T.Machine_eq.b T.Machine_eq.m) (pe_call (ok_redirected T) (hr.mono (by decide)) (by rfl) T.redirected.g T.redirected.F.kp T.redirected.b .nil passE0 (pa_cons (pv 1) (pa_cons (pv 2) (pa_cons (pv 3) (pa_cons (pe_ix ix_list (pv 4) pe_int (fun _ _ => rfl)) pa_nil))))) (pv 0) (by rfl)))), ?_⟩
    refine ⟨_, rfl, d, _, ((0 : Nat) : Int), .int (g : Nat), rfl, rfl, hd, rfl, _, rfl, _, rfl, _, rfl, a, p, c, g, sg, R, k, rfl, hMa, hp, hc, hg, fun hGood H1 x s1 nx hMx => ?_, fun hno => absurd hMb.good hno⟩
    refine ⟨_, rfl, neM T hMx (hMb.same s1) ?_⟩
    rw [sameM_self]
    refine ⟨false, rfl, iteF ?_⟩
    have ho2 : o < R.length := hMa.good.val p hp o (List.mem_of_getElem? ho)
    have hback : M74.rd (M74.rd R p (sg.idxOf c) g) p (sg.idxOf c) o = R := M74.rd_back hp ho
    refine ⟨_, rfl, _, rfl, _, rfl, _, rfl, d, _, ((1 : Nat) : Int), .int (o : Nat), rfl, rfl, sq_same hd s1, rfl, b, p, c, o, sg, _, k, rfl, hMb.same s1, by rw [M74.rd_len]; exact hp, hc, by rw [M74.rd_len]; exact ho2, ?_⟩
    rw [hback]
    refine ⟨fun _ H2 y s2 ny hMy => ?_, fun hno => absurd hMa.good hno⟩
    refine ⟨_, rfl, eqM T hMy (hMa.same (s1.trans s2)) ?_⟩
    rw [sameM_self]
    exact q _ (s1.trans s2)
end
end Lw
namespace Lw
open PySem PySem.Spec PyProof.Rows L3
open L2 hiding del del_same del_ne
/-- [list(row) for row in rows] -/
theorem lc_rows {K : PySem.W.Frag} {J : It} {n : Nat} {G : Hp → Prop} {Y : Nat → Hp → V → Hp → Prop} (w : Walk J n G Y) {g : TG} {te : TE} {vs : List Nat} {σ : L2.St} {H1 : Hp} {D : Addr} {Qd : Hp → Prop} {ys : List V} {R : List (List Nat)}
    (hA : DpAll K H1 ys (R.map fun r => .list (dN r))) (hn : n = R.length) (hfew : R.length ≤ 40) (nD : H1 D = none) (hG : ∀ H, Same H1 H → G H) (hY : ∀ i H x H', Y i H x H' → H' = H ∧ ys[i]? = some x)
    (hs : ∀ (pa : Addr) (rr : List Nat) (H' : Hp) (C : VK), Same H1 H' → SqL K H' pa (nV rr) → (∀ l, H' l = none → C (.ref l) (upd H' l (.lst (nV rr)))) → g (.ref pa) (wipe σ vs) H' fun σ2 H2 => wipe σ2 vs = wipe σ vs ∧ te σ2 H2 C)
    (hgm : ∀ x σ H (Q Q' : L2.St → Hp → Prop), (∀ σ2 H2, Q σ2 H2 → Q' σ2 H2) → g x σ H Q → g x σ H Q')
    (hd : ∀ H, Same H1 H → NewRows2 H1 H D R → Qd H) :
    ∃ W : Nat → Nat → Hp → Prop, (∃ m, W 0 m (upd H1 D (.lst []))) ∧ ∀ i m H, W i m H →
      (J.stop i H ∧ Qd H) ∨ (J.go i H ∧ ∃ Nx : Hp → Prop, (∀ H', Nx H' → ∃ m', m' < m ∧ W (i + 1) m' H') ∧ ∀ x H', J.yld i H x H' → g x (wipe σ vs) H' fun σ2 H2 => wipe σ2 vs = wipe σ vs ∧ tYes σ2 H2 fun b H3 =>
        if b = true then te σ2 H3 fun y H4 => ∃ acc, H4 D = some (.lst acc) ∧ acc.length < sizeLine ∧ Nx (upd H4 D (.lst (acc ++ [y]))) else Nx H3) := by
  refine lc_dp w (fun i acc H' => Same H1 H' ∧ acc.length = i ∧ acc.Nodup ∧ ∀ (j : Nat) (x : V), acc[j]? = some x → ∃ q, x = .ref q ∧ H1 q = none ∧ q ≠ D ∧ H' q = some (.lst (nV (M14.row R j)))) (sz (by omega)) (fun i acc H' p => Nat.le_of_eq p.2.1) nD ⟨Same.refl _, rfl, List.nodup_nil, fun j x e => by simp at e⟩ (fun i acc H p _ => hG H (p.1.trans (del_same _ _))) (fun i y Hh H' acc C N hi p hD yy c nn => ?_) (fun H5 xs' hD5 p => ?_)
  · obtain ⟨rfl, hy⟩ := hY _ _ _ _ yy
    obtain ⟨sm, hlen, hnod, hacc⟩ := p
    obtain ⟨d, hd', hdp⟩ := dpAll_back hA hy
    rw [List.getElem?_map] at hd'
    obtain ⟨rr, hr2, rfl⟩ := Option.map_eq_some_iff.mp hd'
    obtain ⟨pa, zs, rfl, hS2, hA2⟩ := dp_list hdp
    rw [dpAll_nats hA2] at hS2
    have sH := sm.trans (del_same _ _)
    refine hgm _ _ _ _ _ (fun σ2 H2 h => ⟨h.1, yes_te h.2⟩) (hs pa rr H' C sH (sq_same hS2 sH) fun l nl => ?_)
    have nlD : l ≠ D := fun e => by rw [e, hD] at nl; cases nl
    refine c _ _ (by rw [upd_ne nlD.symm]; exact hD) ⟨same_del (same_up sH (sH.free nl)) nD, by rw [List.length_append, hlen]; rfl, ?_, fun j x e => ?_⟩
    · rw [List.nodup_append]
      refine ⟨hnod, by simp, fun x hx y hy z => ?_⟩
      rw [List.mem_singleton] at hy
      subst hy
      subst z
      obtain ⟨jj, hjj⟩ := List.mem_iff_getElem?.mp hx
      obtain ⟨q1, e1, n1, n2, e2⟩ := hacc jj _ hjj
      cases e1
      rw [del_ne n2] at e2
      rw [e2] at nl
      cases nl
    by_cases hj : j < acc.length
    · rw [List.getElem?_append_left hj] at e
      obtain ⟨q1, e1, n1, n2, e2⟩ := hacc j x e
      refine ⟨q1, e1, n1, n2, ?_⟩
      rw [del_ne n2] at e2
      rw [del_ne n2, upd_ne (ne_of_none e2 nl)]
      exact e2
    · have hj2 : j = i := by
        have := (List.getElem?_eq_some_iff.mp e).1
        rw [List.length_append, List.length_singleton] at this
        omega
      subst hj2
      rw [List.getElem?_append_right (by omega), hlen, Nat.sub_self] at e
      cases e
      exact ⟨l, rfl, sH.free nl, nlD, by rw [del_ne nlD, upd_same, M14.row_get hr2]⟩
  · obtain ⟨sm, hlen, hnod, hacc⟩ := p
    refine hd _ (sm.trans (del_same _ _)) ⟨xs', hD5, by rw [hlen, hn], hnod, fun i x e => ?_⟩
    obtain ⟨q1, e1, n1, n2, e2⟩ := hacc i x e
    exact ⟨q1, e1, n1, n2, del_same _ _ _ _ e2⟩
section
variable {w : World} {K : PySem.W.Frag} {mg : Str → Option Value} {base : Heap}
theorem ixn_nat {xs : List V} {i : Nat} (h : i < xs.length) : ixN xs.length ((i : Nat) : Int) = some i := by
  unfold ixN
  rw [if_pos (by omega), if_pos (by omega)]
  rfl
/-- letters, one by one -/
theorem sg_items (sg : List Nat) : ((tS sg).cps.toList.map fun c => V.str ⟨#[c]⟩) = sg.map fun c => tx [c] := rfl
/-! ### _law_steps_right -/
def spStepsRight (K : PySem.W.Frag) (C : Addr) : Sp := fun vs H Q _ => ∃ (v : V) (x : Addr) (sg : List Nat) (R : List (List Nat)) (k : List Bool), vs = [v, .ref x] ∧ Dp K H v (dMo sg R k) ∧ Mach C K H x sg R k ∧ ∀ H', Same H H' → Q (.bl true) H'
theorem ok_law_steps_right (T : All K mg) : FnOkG PW w K mg base CX0 10 T.f_law_steps_right T.d_law_steps_right ["_law_model_here", "_law_net"] (spStepsRight K T.C_Machine) := by
  refine okG T.law_steps_right.F sc_law_steps_right (fun vs H Q E h => ?_) (fun cdv A outer s H vs Q E hr hG h => ?_)
  · obtain ⟨v, x, sg, R, k, rfl, _⟩ := h
    rfl
  · obtain ⟨v, x, sg, R, k, rfl, hd, hM, q⟩ := h
    obtain ⟨p, va, vb, rfl, hS, h1, h2⟩ := dp_model hd
    obtain ⟨b0, ys, rfl, hSb, hAb⟩ := dp_list h1
    obtain ⟨b1, zs, rfl, hSk, hAk⟩ := dp_list h2
    rw [dpAll_bools hAk] at hSk
    have hyl : ys.length = R.length := by rw [dpAll_len hAb, List.length_map]
    have hGd := hM.good
    have hfew := hGd.few
    have hne := hGd.ne
    have hl := hM.lets
    have hsl := hl.few
    refine ⟨_, pss_cons (ps_set (i := 2) sc_law_steps_right.nd rfl (by first | exact Or.inl rfl | exact Or.inr rfl) (pe_callB call_len_seq (by rfl) T.b_len PySem.boot_len (pa_cons (pe_ix ix_tup (pv 0) pe_int (fun _ _ => rfl)) pa_nil)))
      (pss_cons (ps_for PassesOwn.never rfl (pi_range1 rfl T.b_range (pa_cons (pv 2) pa_nil)) (pg_name (i := 3) sc_law_steps_right.nd rfl (by first | exact Or.inl rfl | exact Or.inr rfl))
        (pss_one (ps_for PassesOwn.never rfl (pi_enumS rfl T.b_enumerate (pa_cons (pe_ix ix_tup (pv 0) pe_int (fun _ _ => rfl)) pa_nil)) (pg_tup rfl (pgs_cons (pg_name (i := 4) sc_law_steps_right.nd rfl (by first | exact Or.inl rfl | exact Or.inr rfl)) (pgs_cons (pg_name (i := 5) sc_law_steps_right.nd rfl (by first | exact Or.inl rfl | exact Or.inr rfl)) pgs_nil)))
        (pss_cons (ps_for PassesOwn.never rfl (pi_range1 rfl T.b_range (pa_cons (pv 2) pa_nil)) (pg_name (i := 6) sc_law_steps_right.nd rfl (by first | exact Or.inl rfl | exact Or.inr rfl))
        (pss_cons (ps_setLc (i := 7) (own := [("_law_row", 8)]) (g := gName 8) (tt := tYes) (by rfl) sc_law_steps_right.nd rfl rfl (sw_true rfl rfl rfl (by decide +kernel)) (pi_list (pe_ix ix_tup (pv 0) pe_int (fun _ _ => rfl)))
          (blkOk_by (own := [("_law_row", 8)]) (N := ["_law_model_here", "_law_net", "_law_many", "_law_spot", "_law_at", "_law_sign", "_law_goal_now", "_law_rows_here", "_law_row", "_law_told", "_law_is_whole", "_law_goals"]) (sc := defScope s_law_steps_right) (by decide +kernel))
          (fun _ _ _ _ _ => pg_name (i := 8) sc_law_steps_right.nd rfl (by first | exact Or.inl rfl | exact Or.inr rfl)) (fun _ _ _ _ _ => pts_nil)
          (fun _ _ _ _ _ => (pe_callTy (call_list_ofK (K := K) rfl) (by rfl) T.b_list PyProof.Rows.boot_list (pa_cons (pv 8) pa_nil))))
      (pss_cons (ps_asg (pv 6) (pg_sub (pe_ix ix_list (pv 7) (pv 3) (fun _ _ => rfl)) (pv 4) set_list))
      (pss_cons (ps_set (i := 9) sc_law_steps_right.nd rfl (by first | exact Or.inl rfl | exact Or.inr rfl) (pe_call (ok_law_led T) (hr.mono (by decide)) (by rfl) T.law_led.g T.law_led.F.kp T.law_led.b .nil pass0 (pa_cons (pv 1) (pa_cons (pv 3) (pa_cons (pv 5) (pa_cons (pv 6) pa_nil))))))
      (pss_cons (ps_set (i := 10) sc_law_steps_right.nd rfl (by first | exact Or.inl rfl | exact Or.inr rfl) (pe_cmpR op_eq (pe_callB call_len_seq (by rfl) T.b_len PySem.boot_len (pa_cons (pe_call (ok_law_met T) (hr.mono (by decide)) (by rfl) T.law_met.g T.law_met.F.kp T.law_met.b .nil pass0 (pa_cons (pv 7) pa_nil)) pa_nil)) (pv 2) (by rfl)))
      (pss_cons (ps_if (pt_cmpR op_ne (pe_cmpR op_notN (pv 9) pe_non (by rfl)) (pv 10) (nomark _)) (pss_one ps_never) pss_nil)
      (pss_cons (ps_if (PW.pt (pw_and (pt_val (pv 10)) (pw_and1 (pt_cmpR (op_neOwn (FnOkG.of (ok_Machine_eq T)) (hr.mono (by decide)) hG T.Machine_eq.b T.Machine_eq.m (mro_obj T.mk_Machine) T.ne_Machine) (pv 9) (pe_make ⟨T.mk_Machine, T.Machine_init.m.at_, T.Machine_init.m.fn, T.kp_Machine⟩ (ok_Machine_init T) (hr.mono (by decide)) (by rfl) T.g_Machine T.Machine_init.b .nil pass0 (pa_cons (pe_ix ix_tup (pv 0) pe_int (fun _ _ => rfl)) (pa_cons (pv 7) (pa_cons (pe_ix ix_tup (pv 0) pe_int (fun _ _ => rfl)) pa_nil)))) (nomark _))))) (pss_one ps_never) pss_nil)
      (pss_cons (ps_set (i := 11) sc_law_steps_right.nd rfl (by first | exact Or.inl rfl | exact Or.inr rfl) (pe_lst (pa_cons (pv 6) (pa_cons (pe_ix ix_list (pe_ix ix_list (pe_ix ix_tup (pv 0) pe_int (fun _ _ => rfl)) (pv 3) (fun _ _ => rfl)) (pv 4) (fun _ _ => rfl)) pa_nil))))
      (pss_one (ps_if (PW.pt (pw_and (pt_val (pv 10)) (pw_and1 (pt_not (pt_val (pe_callG (ok_law_led_right T) (hr.mono (by decide)) hG (by rfl) T.law_led_right.g T.law_led_right.F.kp T.law_led_right.b pass0 (pa_cons (pv 1) (pa_cons (pv 9) (pa_cons (pv 3) (pa_cons (pv 5) (pa_cons (pv 11) pa_nil))))))))))) (pss_one ps_never) pss_nil))))))))))
      (pss_one (ps_if (pt_cmpR (op_neOwn (FnOkG.of (ok_Machine_eq T)) (hr.mono (by decide)) hG T.Machine_eq.b T.Machine_eq.m (mro_obj T.mk_Machine) T.ne_Machine) (pe_call (ok_redirected T) (hr.mono (by decide)) (by rfl) T.redirected.g T.redirected.F.kp T.redirected.b .nil passE0 (pa_cons (pv 1) (pa_cons (pv 3) (pa_cons (pv 5) (pa_cons (pe_ix ix_list (pe_ix ix_list (pe_ix ix_tup (pv 0) pe_int (fun _ _ => rfl)) (pv 3) (fun _ _ => rfl)) (pv 4) (fun _ _ => rfl)) pa_nil))))) (pv 1) (nomark _)) (pss_one ps_never) pss_nil))))))
      (pss_one (ps_ret pe_bl))), ?_⟩
    refine ⟨_, rfl, p, _, ((1 : Nat) : Int), .ref b0, rfl, rfl, hS, rfl, b0, ys, rfl, .inl hSb, ?_⟩
    rw [hyl]
    refine ⟨_, rfl, _, rfl, by omega, by omega, ?_⟩
    rw [show ((R.length : Int)).toNat = R.length by omega]
    refine for_it walk_range (fun i σ H' => ∃ s3 s4 s5 s6 s7 s9 s10 s11, σ = [some (.ref p), some (.ref x), some (.int (R.length : Int)), s3, s4, s5, s6, s7, none, s9, s10, s11] ∧ Same H H')
      ⟨_, _, _, _, _, _, _, _, rfl, Same.refl _⟩ (fun _ _ _ _ _ => trivial) (fun i x0 σ H1 H2 hi pp y => ?_) (fun σ H1 pp => ?_)
    · obtain ⟨s3, s4, s5, s6, s7, s9, s10, s11, rfl, sm⟩ := pp
      obtain ⟨rfl, rfl⟩ := y
      dsimp only
      rw [show (0 : Int) + (i : Int) = (i : Int) by omega]
      have hri : (M14.row R i).length = sg.length := hGd.len _ (M14.row_mem hi)
      refine ⟨_, rfl, p, _, ((0 : Nat) : Int), tx sg, rfl, rfl, sqT_same hS sm, rfl, .S (tS sg), sg.map (fun c => tx [c]), rfl, sg_items sg, ?_⟩
      refine for_it walk_enumS (fun j σ H' => ∃ s4 s5 s6 s7 s9 s10 s11, σ = [some (.ref p), some (.ref x), some (.int (R.length : Int)), some (.int (i : Int)), s4, s5, s6, s7, none, s9, s10, s11] ∧ Same H H')
        ⟨_, _, _, _, _, _, _, rfl, sm⟩ (fun _ _ _ _ _ => sg_items sg) (fun j x1 σ H3 H4 hj pp y => ?_) (fun σ H3 pp => ?_)
      · obtain ⟨s4, s5, s6, s7, s9, s10, s11, rfl, sm3⟩ := pp
        obtain ⟨Tp, v1, v2, rfl, nT, rfl, e1, e2⟩ := y
        cases e1
        have e2 : (sg.map fun c => tx [c])[j]? = some v2 := e2
        rw [List.getElem?_map] at e2
        obtain ⟨c, hc, rfl⟩ := Option.map_eq_some_iff.mp e2
        have hcs : c ∈ sg := List.mem_of_getElem? hc
        have hnd : sg.Nodup := hl.up.imp fun h => Nat.ne_of_lt h
        have hix : sg.idxOf c = j := M14.idx_at hnd hc
        have hj := (List.getElem?_eq_some_iff.mp hc).1
        have sm4 := same_up (o := .tup [.int (j : Nat), tx [c]]) sm3 (sm3.free nT)
        have hTp := upd_same (H := H3) (a := Tp) (o := .tup [.int (j : Nat), tx [c]])
        refine ⟨Tp, _, rfl, .inl (.inl hTp), rfl, _, _, rfl, _, _, rfl, rfl, ?_⟩
        generalize upd H3 Tp (.tup [.int (j : Nat), tx [c]]) = H5 at *
        obtain ⟨o, ho⟩ : ∃ o, (M14.row R i)[j]? = some o := ⟨_, List.getElem?_eq_getElem (by omega)⟩
        have hor : o < R.length := hGd.val i hi o (List.mem_of_getElem? ho)
        obtain ⟨yv, hyv⟩ : ∃ y, ys[i]? = some y := ⟨_, List.getElem?_eq_getElem (by omega)⟩
        obtain ⟨d, hd1, hdp⟩ := dpAll_back hAb hyv
        rw [List.getElem?_map, M14.row_at hi] at hd1
        cases hd1
        obtain ⟨c0', zs', ez, hSz, hAz⟩ := dp_list hdp
        subst ez
        rw [dpAll_nats hAz] at hSz
        refine ⟨_, rfl, _, rfl, by omega, by omega, ?_⟩
        rw [show ((R.length : Int)).toNat = R.length by omega]
        refine for_it walk_range (fun g σ H' => ∃ s6 s7 s9 s10 s11, σ = [some (.ref p), some (.ref x), some (.int (R.length : Int)), some (.int (i : Int)), some (.int (j : Int)), some (tx [c]), s6, s7, none, s9, s10, s11] ∧ Same H H')
          ⟨_, _, _, _, _, rfl, sm4⟩ (fun _ _ _ _ _ => trivial) (fun g x2 σ H6 H7 hg pp y => ?_) (fun σ H6 pp => ?_)
        · obtain ⟨s6, s7, s9, s10, s11, rfl, sm6⟩ := pp
          obtain ⟨rfl, rfl⟩ := y
          dsimp only
          rw [show (0 : Int) + (g : Int) = (g : Int) by omega]
          have hSb6 := sq_same hSb sm6
          refine ⟨_, rfl, p, _, ((1 : Nat) : Int), .ref b0, rfl, rfl, sqT_same hS sm6, rfl, b0, rfl, ⟨_, hSb6⟩, fun D nD => ?_⟩
          refine lc_rows (K := K) (walk_list (xs := ys)) (DpAll.same sm6 hAb) hyl hfew nD (fun H' s' => sq_same hSb6 s') (fun i H x H' y => y) (fun pa rr H' C s' hS' c => ?_) gName_mono (fun H8 s8 hN => ?_)
          · exact ⟨rfl, _, rfl, pa, _, rfl, .inl hS', c⟩
          have s68 := sm6.trans s8
          obtain ⟨xs, q0, hDx, hx0, hq0, nq, nqD, hput⟩ := hN.put hi
          have hxN := hput j g
          have hix2 : ixN (nV (M14.row R i)).length ((j : Nat) : Int) = some j := ixn_nat (by rw [nV_len]; omega)
          refine ⟨_, rfl, _, rfl, _, rfl, D, xs, ((i : Nat) : Int), .ref q0, rfl, rfl, .inl (.inl hDx), atI_nat hx0, _, rfl, q0, _, _, _, rfl, rfl, hq0, hix2, ?_⟩
          rw [nV_set]
          have s69 : Same H7 (upd H8 q0 (.lst (nV ((M14.row R i).set j g)))) := same_up s8 nq
          generalize upd H8 q0 (.lst (nV ((M14.row R i).set j g))) = H9 at *
          have s9' := sm6.trans s69
          have hSh := M74.rd_sht (a := j) hGd.toSht hi hg
          have hM9 := hM.same s9'
          obtain ⟨dxx, rxx, qxx, hatx, _⟩ := hM9.at_
          have hx9 : H9 x ≠ none := fun e => by rw [e] at hatx; cases hatx
          refine ⟨_, rfl, _, rfl, _, rfl, _, rfl, x, i, c, g, sg, R, k, rfl, hM9, hi, hcs, hg, ?_⟩
          rw [hix]
          refine ⟨fun hGood => fun H10 y s10' ny hMy => ?_, fun hno H10 s10' => ?_⟩
          · have hN10 := hxN.same s10'
            have hx10 : H10 x ≠ none := fun e => by rw [s10' _ _ hatx] at e; cases e
            refine ⟨_, rfl, _, _, x, hx10, rfl, rw_dLR hN10.one.dp, hSh.val, hSh.ne, hSh.few, fun p hp => by rw [hSh.len _ (M14.row_mem hp)]; exact hsl, fun H11 pm s11' nm hdm => ?_⟩
            obtain ⟨_, xm, e, hSm, hAm⟩ := dp_list hdm
            cases e
            have hml : xm.length = R.length := by
              rw [dpAll_len hAm, List.length_map]
              unfold M14.fromR M14.ren
              rw [List.length_map, M74.len_of_all hSh hGood.all, M74.rd_len]
            have s011 := (s9'.trans s10').trans s11'
            have hS11 := sqT_same hS s011
            refine ⟨pm, xm, rfl, .inl (sq_same hSm (del_same _ _)), _, rfl, rfl, ?_⟩
            rw [hml]
            refine ⟨_, rfl, rfl, _, rfl, rfl, _, rfl, ite_f (by simp) ?_⟩
            refine ⟨_, rfl, _, rfl, ite_t (by simp) ?_⟩
            refine ⟨_, rfl, _, rfl, p, _, ((0 : Nat) : Int), tx sg, rfl, rfl, hS11, rfl, _, rfl, _, rfl, p, _, ((2 : Nat) : Int), .ref b1, rfl, rfl, hS11, rfl, ?_⟩
            intro z dz nz ndz _
            refine make_ok hl (rw_dLR (Dp.same s11' hN10.one.dp)) (sq_list (sq_same hSk s011)) hGood nz ndz (fun H12 s12 hMz => ?_)
            refine neM T (hMy.same (s11'.trans s12)) hMz ?_
            rw [sameM_self]
            refine ⟨false, rfl, iteF ?_⟩
            have s012 := s011.trans s12
            refine ⟨_, rfl, _, rfl, p, _, ((1 : Nat) : Int), .ref b0, rfl, rfl, sqT_same hS s012, rfl, _, rfl, b0, ys, _, .ref c0', rfl, rfl, sq_same hSb s012, atI_nat hyv, _, rfl, c0', _, _, .int (o : Nat), rfl, rfl, sq_same hSz s012, atI_nat (nV_get ho), by show 2 ≤ sizeLine; decide, fun p8 n8 => ?_⟩
            have s13 := same_up (o := .lst [.int (g : Int), .int (o : Nat)]) s012 (s012.free n8)
            have s813 := same_upd (o := .lst [.int (g : Int), .int (o : Nat)]) n8
            refine ⟨_, rfl, _, rfl, ite_t (by simp) ?_⟩
            refine ⟨_, rfl, _, rfl, _, rfl, _, rfl, _, rfl, x, y, p8, i, c, g, o, sg, R, k, rfl, hM.same s13, ?_⟩
            rw [hix]
            refine ⟨hMy.same ((s11'.trans s12).trans s813), hi, hcs, hg, ho, .inl (.inl upd_same), fun H14 s14 => ⟨true, rfl, iteF ?_⟩⟩
            exact ⟨_, _, _, _, _, rfl, s13.trans s14⟩
          · have hN10 := hxN.same s10'
            have hx10 : H10 x ≠ none := fun e => by rw [s10' _ _ hatx] at e; cases e
            refine ⟨_, rfl, _, _, x, hx10, rfl, rw_dLR hN10.one.dp, hSh.val, hSh.ne, hSh.few, fun p hp => by rw [hSh.len _ (M14.row_mem hp)]; exact hsl, fun H11 pm s11' nm hdm => ?_⟩
            obtain ⟨_, xm, e, hSm, hAm⟩ := dp_list hdm
            cases e
            have hml : xm.length = (M14.met (M74.rd R i j g) 0).length := by
              rw [dpAll_len hAm, List.length_map]
              unfold M14.fromR M14.ren
              rw [List.length_map]
            have hmn : xm.length ≠ R.length := fun e => hno ((M74.good_iff hSh).mpr (by rw [← hml, e, M74.rd_len]))
            have s011 := (s9'.trans s10').trans s11'
            refine ⟨pm, xm, rfl, .inl (sq_same hSm (del_same _ _)), _, rfl, rfl, ?_⟩
            have hmi : ¬ ((xm.length : Int) = (R.length : Int)) := by omega
            refine ⟨_, rfl, rfl, _, rfl, rfl, _, rfl, ite_f (by simp [hmi]) ?_⟩
            refine ⟨_, rfl, _, rfl, ite_f (by simp [hmi]) ?_⟩
            refine ⟨_, rfl, _, rfl, p, _, ((1 : Nat) : Int), .ref b0, rfl, rfl, sqT_same hS s011, rfl, _, rfl, b0, ys, _, .ref c0', rfl, rfl, sq_same hSb s011, atI_nat hyv, _, rfl, c0', _, _, .int (o : Nat), rfl, rfl, sq_same hSz s011, atI_nat (nV_get ho), by show 2 ≤ sizeLine; decide, fun p8 n8 => ?_⟩
            refine ⟨_, rfl, _, rfl, ite_f (by simp [hmi]) ?_⟩
            exact ⟨_, _, _, _, _, rfl, same_up s011 (s011.free n8)⟩
        · obtain ⟨s6, s7, s9, s10, s11, rfl, sm6⟩ := pp
          have hsame : M74.rd R i j o = R := M74.rd_same hi ho
          refine ⟨_, rfl, _, rfl, _, rfl, _, rfl, p, _, ((1 : Nat) : Int), .ref b0, rfl, rfl, sqT_same hS sm6, rfl, _, rfl, b0, ys, _, .ref c0', rfl, rfl, sq_same hSb sm6, atI_nat hyv, _, rfl, c0', _, _, .int (o : Nat), rfl, rfl, sq_same hSz sm6, atI_nat (nV_get ho), ?_⟩
          refine ⟨x, i, c, o, sg, R, k, rfl, hM.same sm6, hi, hcs, hor, ?_⟩
          rw [hix, hsame]
          refine ⟨fun _ H8 y s8 ny hMy => ?_, fun hno => absurd hGd hno⟩
          refine ⟨_, rfl, neM T hMy (hM.same (sm6.trans s8)) ?_⟩
          rw [sameM_self]
          refine ⟨false, rfl, iteF ?_⟩
          exact ⟨_, _, _, _, _, _, _, rfl, sm6.trans s8⟩
      · obtain ⟨s4, s5, s6, s7, s9, s10, s11, rfl, sm3⟩ := pp
        exact ⟨_, _, _, _, _, _, _, _, rfl, sm3⟩
    · obtain ⟨s3, s4, s5, s6, s7, s9, s10, s11, rfl, sm⟩ := pp
      exact q _ sm
end
end Lw
namespace Lw
open PySem PySem.Spec PyProof.Rows L3
open L2 hiding del del_same del_ne
theorem NL.off {a : Addr} {H H' : Hp} (hp : Pot H a) (o : Off a H H') : NL H H' := fun p u e n => o p u e fun z => by
  obtain ⟨x, y, h, _⟩ := hp
  subst z
  rw [h] at e
  cases e
  exact n _ rfl
theorem spk_len {sg : List Nat} {R : List (List Nat)} {k : List Bool} (hl : Lets sg) (h : M14.Sht sg.length R k) : (spk sg R k).length ≤ 50000 := by
  have l1 : (reprText (tS sg)).length ≤ 46 := shownLen (wt_sg hl)
  have l2 := shownLen (wt_dLR h hl.few)
  have l3 := shownLen (wt_kinds h)
  have c1 : ("Machine(" : Str).length = 8 := by decide +kernel
  have c2 : (", " : Str).length = 2 := by decide +kernel
  have c3 : (")" : Str).length = 1 := by decide +kernel
  unfold spk
  rw [strLen_append, strLen_append, strLen_append, strLen_append, strLen_append, strLen_append]
  omega
theorem list3_len (t : Str) : (listText [t, t, t]).length ≤ 3 * t.length + 100 := by
  have c1 : ("[" : Str).length = 1 := by decide +kernel
  have c2 : (", " : Str).length = 2 := by decide +kernel
  have c3 : ("]" : Str).length = 1 := by decide +kernel
  unfold listText
  have c0 : ("" : Str).length = 0 := by decide +kernel
  simp only [textFrom]
  show (((((((("[" : Str) ++ ("" : Str)) ++ t) ++ (", " : Str)) ++ t) ++ (", " : Str)) ++ t) ++ ("]" : Str)).length ≤ _
  rw [strLen_append, strLen_append, strLen_append, strLen_append, strLen_append, strLen_append, strLen_append]
  omega
theorem rgV_0 (n : Nat) : rgV 0 (n : Int) = nV (List.range n) := by
  unfold rgV nV
  rw [show ((n : Int) - 0).toNat = n by omega]
  refine List.map_congr_left fun i _ => ?_
  show V.int (0 + (i : Int)) = V.int (i : Int)
  rw [Int.zero_add]
section
variable {w : World} {K : PySem.W.Frag} {mg : Str → Option Value} {base : Heap}
/-! ### _law_spots_right -/
def spSpotsRight (K : PySem.W.Frag) (C : Addr) : Sp := fun vs H Q _ => ∃ (a : Addr) (v : V) (x : Addr) (sg : List Nat) (R : List (List Nat)) (k : List Bool), vs = [.ref a, v, .ref x] ∧ Pot H a ∧ Dp K (del H a) v (dMo sg R k) ∧ Mach C K H x sg R k ∧ ∀ H', Pot H' a → Off a H H' → Q (.bl true) H'
theorem ok_law_spots_right (T : All K mg) : FnOkG PW w K mg base CX0 10 T.f_law_spots_right T.d_law_spots_right ["_law_pot_here", "_law_model_here", "_law_net"] (spSpotsRight K T.C_Machine) := by
  refine okG T.law_spots_right.F sc_law_spots_right (fun vs H Q E h => ?_) (fun cdv A outer s H vs Q E hr hG h => ?_)
  · obtain ⟨a, v, x, sg, R, k, rfl, _⟩ := h
    rfl
  · obtain ⟨a, v, x, sg, R, k, rfl, hp, hdm, hM, q⟩ := h
    have hd := Dp.same (del_same H a) hdm
    obtain ⟨p, va, vb, rfl, hS, h1, h2⟩ := dp_model hd
    obtain ⟨b0, ys, rfl, hSb, hAb⟩ := dp_list h1
    have hyl : ys.length = R.length := by rw [dpAll_len hAb, List.length_map]
    have hGd := hM.good
    have hfew := hGd.few
    have hne := hGd.ne
    have hl := hM.lets
    have hsl := hl.few
    refine ⟨_, pss_cons (ps_setLc (i := 3) (own := [("_law_spot", 4)]) (g := gName 4) (by rfl) sc_law_spots_right.nd rfl rfl (sw_true rfl rfl rfl (by decide +kernel)) (pi_list (pe_call (ok_law_mixed T) (hr.mono (by decide)) (by rfl) T.law_mixed.g T.law_mixed.F.kp T.law_mixed.b .nil pass0 (pa_cons (pv 0) (pa_cons (pe_listRg (by rfl) (by rfl) T.b_list (prg_1 (by rfl) T.b_range (pe_callB call_len_seq (by rfl) T.b_len PySem.boot_len (pa_cons (pe_ix ix_tup (pv 1) pe_int (fun _ _ => rfl)) pa_nil)))) pa_nil))))
          (blkOk_by (own := [("_law_spot", 4)]) (N := ["_law_pot_here", "_law_model_here", "_law_net", "_law_spots", "_law_spot", "_law_handed", "_law_due", "_law_told", "_law_word", "_law_steps_now"]) (sc := defScope s_law_spots_right) (by decide +kernel))
          (fun _ _ _ _ _ => pg_name (i := 4) sc_law_spots_right.nd rfl (by first | exact Or.inl rfl | exact Or.inr rfl)) (fun _ _ _ _ _ => (pts_one (pt_cmpR op_eq (pe_call (ok_law_draw T) (hr.mono (by decide)) (by rfl) T.law_draw.g T.law_draw.F.kp T.law_draw.b .nil pass0 (pa_cons (pv 0) (pa_cons pe_int pa_nil))) pe_int (nomark _))))
          (fun _ _ _ _ _ => (pv 4)))
      (pss_cons (ps_par rfl sc_law_spots_right.nd (i := 5) (j := 6) rfl rfl (by decide) rfl rfl (pa_cons (pe_callTy call_list_of (by rfl) T.b_list PyProof.Rows.boot_list (pa_cons (pv 3) pa_nil)) (pa_cons (pe_call (ok_law_machine T) (hr.mono (by decide)) (by rfl) T.law_machine.g T.law_machine.F.kp T.law_machine.b .nil pass0 (pa_cons (pe_call (ok_law_turned_model T) (hr.mono (by decide)) (by rfl) T.law_turned_model.g T.law_turned_model.F.kp T.law_turned_model.b .nil pass0 (pa_cons (pv 1) (pa_cons (pv 3) pa_nil))) pa_nil)) pa_nil)) (by rfl))
      (pss_cons (ps_set (i := 7) sc_law_spots_right.nd rfl (by first | exact Or.inl rfl | exact Or.inr rfl) (pe_lst (pa_cons (pe_call (ok_turned T) (hr.mono (by decide)) (by rfl) T.turned.g T.turned.F.kp T.turned.b .nil pass0 (pa_cons (pv 2) (pa_cons (pv 5) pa_nil))) (pa_cons (pe_callK0 (FnOkG.of (ok_turned T)) (hr.mono (by decide)) hG (by rfl) T.turned.g T.turned.F.kp (kb2 (n := "machine") (m := "places") T.turned.F (fun _ _ _ _ _ _ _ _ => rfl)) pass0 (pk_cons (pe_callTy call_tuple_of (by rfl) T.b_tuple (show bootBuiltins "tuple" = some (.type "tuple") by decide +kernel) (pa_cons (pv 3) pa_nil)) (pk_cons (pv 2) pk_nil))) (pa_cons (pe_call (ok_turned T) (hr.mono (by decide)) (by rfl) T.turned.g T.turned.F.kp T.turned.b .nil pass0 (pa_cons (pv 2) (pa_cons (pe_revL (pv 3)) pa_nil))) pa_nil)))))
      (pss_cons (ps_if (PW.pt (pw_or (pt_cmpR (op_neD (u64 hr)) (pv 5) (pv 3) (nomark _)) (pw_or (pt_cmpR (op_neL hr.units) (pv 7) (pe_op op_rep (pe_lst (pa_cons (pv 6) pa_nil)) pe_int) (nomark _)) (pw_or1 (pt_cmpR op_ne (pe_callB (cr_reprL (k := 2) (hr.mono (by decide)) hG) (by rfl) T.b_repr (by decide +kernel) (pa_cons (pv 7) pa_nil)) (pe_callB (cr_reprL (k := 2) (hr.mono (by decide)) hG) (by rfl) T.b_repr (by decide +kernel) (pa_cons (pe_op op_rep (pe_lst (pa_cons (pv 6) pa_nil)) pe_int) pa_nil)) (nomark _)))))) (pss_one ps_never) pss_nil)
      (pss_cons (ps_expr (pe_bm PySem.F.plainAttrs_list PySem.F.slot_list_append PySem.F.type_list_append mt_append (pv 5) (pa_cons pe_non pa_nil)))
      (pss_cons (ps_for PassesOwn.never rfl (pi_list (pe_call (ok_law_words T) (hr.mono (by decide)) (by rfl) T.law_words.g T.law_words.F.kp T.law_words.b .nil pass0 (pa_cons (pe_ix ix_tup (pv 1) pe_int (fun _ _ => rfl)) (pa_cons pe_int pa_nil)))) (pg_name (i := 8) sc_law_spots_right.nd rfl (by first | exact Or.inl rfl | exact Or.inr rfl))
        (pss_one (ps_if (pt_cmpR op_ne (pe_callB (call_reprD hr hG) (by rfl) T.b_repr (by decide +kernel) (pa_cons (pe_meth (pe_ix ix_list (pv 7) pe_int (fun _ _ => rfl)) T.cl_Machine T.Machine_takes.m (ok_Machine_takes T) (hr.mono (by decide)) T.Machine_takes.b .nil pass0 (pa_cons (pv 8) pa_nil)) pa_nil)) (pe_callB (call_reprD hr hG) (by rfl) T.b_repr (by decide +kernel) (pa_cons (pe_call (ok_law_takes T) (hr.mono (by decide)) (by rfl) T.law_takes.g T.law_takes.F.kp T.law_takes.b .nil pass0 (pa_cons (pe_call (ok_law_turned_model T) (hr.mono (by decide)) (by rfl) T.law_turned_model.g T.law_turned_model.F.kp T.law_turned_model.b .nil pass0 (pa_cons (pv 1) (pa_cons (pv 3) pa_nil))) (pa_cons (pv 8) pa_nil))) pa_nil)) (nomark _)) (pss_one ps_never) pss_nil)))
      (pss_cons (ps_set (i := 9) sc_law_spots_right.nd rfl (by first | exact Or.inl rfl | exact Or.inr rfl) (pv 2))
      (pss_cons (ps_for PassesOwn.never rfl (pi_list (pe_call (ok_law_mixed T) (hr.mono (by decide)) (by rfl) T.law_mixed.g T.law_mixed.F.kp T.law_mixed.b .nil pass0 (pa_cons (pv 0) (pa_cons (pv 3) pa_nil)))) (pg_name (i := 4) sc_law_spots_right.nd rfl (by first | exact Or.inl rfl | exact Or.inr rfl))
        (pss_one (ps_set (i := 9) sc_law_spots_right.nd rfl (by first | exact Or.inl rfl | exact Or.inr rfl) (pe_call (ok_turned T) (hr.mono (by decide)) (by rfl) T.turned.g T.turned.F.kp T.turned.b .nil pass0 (pa_cons (pv 9) (pa_cons (pe_lst (pa_cons (pv 4) pa_nil)) pa_nil))))))
      (pss_cons (ps_if (PW.pt (pw_or (pt_cmpR (op_neOwn (FnOkG.of (ok_Machine_eq T)) (hr.mono (by decide)) hG T.Machine_eq.b T.Machine_eq.m (mro_obj T.mk_Machine) T.ne_Machine) (pv 9) (pv 6) (nomark _)) (pw_or (pt_cmpR (op_neOwn (FnOkG.of (ok_Machine_eq T)) (hr.mono (by decide)) hG T.Machine_eq.b T.Machine_eq.m (mro_obj T.mk_Machine) T.ne_Machine) (pe_call (ok_turned T) (hr.mono (by decide)) (by rfl) T.turned.g T.turned.F.kp T.turned.b .nil pass0 (pa_cons (pv 6) (pa_cons (pv 3) pa_nil))) (pv 2) (nomark _)) (pw_or1 (pt_cmpR (op_neOwn (FnOkG.of (ok_Machine_eq T)) (hr.mono (by decide)) hG T.Machine_eq.b T.Machine_eq.m (mro_obj T.mk_Machine) T.ne_Machine) (pe_call (ok_turned T) (hr.mono (by decide)) (by rfl) T.turned.g T.turned.F.kp T.turned.b .nil pass0 (pa_cons (pv 2) (pa_cons (pe_lst pa_nil) pa_nil))) (pv 2) (nomark _)))))) (pss_one ps_never) pss_nil)
      (pss_cons (ps_expr (pe_bm PySem.F.plainAttrs_list PySem.F.slot_list_append PySem.F.type_list_append mt_append (pe_meth0 (pe_ix ix_list (pv 7) pe_int (fun _ _ => rfl)) T.cl_Machine T.Machine_kinds.m (ok_Machine_kinds T) (hr.mono (by decide)) T.Machine_kinds.b .nil pass0) (pa_cons pe_non pa_nil)))
      (pss_cons (ps_expr (pe_bm0 PySem.F.plainAttrs_list PySem.F.slot_list_clear PySem.F.type_list_clear mt_clear (pe_ix ix_list (pe_meth0 (pe_ix ix_list (pv 7) pe_int (fun _ _ => rfl)) T.cl_Machine T.Machine_rows.m (ok_Machine_rows T) (hr.mono (by decide)) T.Machine_rows.b .nil pass0) pe_int (fun _ _ => rfl))))
      (pss_one (ps_ret (pe_and (pe_cmpR (op_eqOwn (FnOkG.of (ok_Machine_eq T)) (hr.mono (by decide)) hG T.Machine_eq.b T.Machine_eq.m) (pe_ix ix_list (pv 7) pe_int (fun _ _ => rfl)) (pv 6) (by rfl))
        (pe_one (pe_cmpR (op_eqOwn (FnOkG.of (ok_Machine_eq T)) (hr.mono (by decide)) hG T.Machine_eq.b T.Machine_eq.m) (pe_call (ok_turned T) (hr.mono (by decide)) (by rfl) T.turned.g T.turned.F.kp T.turned.b .nil pass0 (pa_cons (pv 2) (pa_cons (pe_listRg (by rfl) (by rfl) T.b_list (prg_1 (by rfl) T.b_range (pe_callB call_len_seq (by rfl) T.b_len PySem.boot_len (pa_cons (pe_ix ix_tup (pv 1) pe_int (fun _ _ => rfl)) pa_nil)))) pa_nil))) (pe_un (un_inv (ok_Machine_invert T) (hr.mono (by decide)) T.Machine_invert.b T.Machine_invert.m) (pv 2)) (by rfl)))))))))))))))), ?_⟩
    refine ⟨_, rfl, _, rfl, p, _, ((1 : Nat) : Int), .ref b0, rfl, rfl, hS, rfl, b0, ys, rfl, .inl hSb, _, rfl, RgOk.of_le (by decide) (by omega) (by decide) (by omega), fun F nF => ?_⟩
    rw [hyl, rgV_0]
    have naF : a ≠ F := hp.ne nF
    refine ⟨a, F, List.range R.length, rfl, hp.up naF, naF.symm, .inl (.inl upd_same), by rw [List.length_range]; omega, fun H1 M l' hperm hp1 ho1 nM hM1 => ?_⟩
    have naM : a ≠ M := (hp.up naF).ne nM
    have ho01 : Off a H H1 := (Off.of (same_upd nF)).trans ho1
    have hll : l'.length = R.length := by rw [hperm.length_eq, List.length_range]
    refine ⟨M, rfl, ⟨_, .inl (.inl hM1)⟩, fun D nD => ?_⟩
    have naD : a ≠ D := hp1.ne nD
    have nDM : M ≠ D := ne_of_none hM1 nD
    refine lc_gen2 (walk_list (xs := nV l')) (fun H' => Pot H' a ∧ Off a H1 H') (fun i acc => ∃ S, acc = nV S ∧ S.Sublist (l'.take i)) (sz (by rw [nV_len]; omega)) (fun i acc e => by
        obtain ⟨S, e, hs⟩ := e
        rw [e, nV_len]
        exact Nat.le_trans hs.length_le (by rw [List.length_take]; exact Nat.min_le_left _ _)) ⟨[], rfl, List.Sublist.refl _⟩
      ⟨hp1.up naD, Off.of (same_upd nD)⟩ (fun H' acc acc' hD r => ⟨r.1.up naD, r.2.up nD⟩) (fun H' r => .inl (.inl (r.2 _ _ hM1 naM.symm))) (fun i x H7 H8 acc C N hi r hD ha y c n => ?_) (fun H2 xs r hD ha => ?_)
    · obtain ⟨rfl, hy⟩ := y
      obtain ⟨g, hg, rfl⟩ := nV_inv hy
      obtain ⟨S, rfl, hsub⟩ := ha
      have htk : l'.take (i + 1) = l'.take i ++ [g] := by rw [List.take_add_one, hg]; rfl
      refine ⟨rfl, _, rfl, a, 2, rfl, r.1, by decide, by decide, fun H9 dd hdd hp9 ho9 => ?_⟩
      refine ⟨rfl, _, rfl, ?_⟩
      have r9 : Pot H9 a ∧ Off a H1 H9 := ⟨hp9, r.2.trans ho9⟩
      have hD9 := ho9 _ _ hD naD.symm
      refine ite2 (fun _ => ?_) (fun _ => ?_)
      · refine ⟨_, rfl, c _ _ r9 hD9 ⟨S ++ [g], (nV_snoc _ _).symm, ?_⟩⟩
        rw [htk]
        exact List.Sublist.append hsub (List.Sublist.refl _)
      · exact n _ r9 hD9 ⟨S, rfl, by rw [htk]; exact hsub.trans (List.sublist_append_left _ _)⟩
    · obtain ⟨S, rfl, hsub⟩ := ha
      rw [nV_len, List.take_of_length_le (Nat.le_refl _)] at hsub
      have hSnd : S.Nodup := hsub.nodup (hperm.nodup_iff.mpr List.nodup_range)
      have hSlt : ∀ p ∈ S, p < R.length := fun p hp => List.mem_range.mp (hperm.mem_iff.mp (hsub.subset hp))
      have hSlen : S.length ≤ 40 := by have := hsub.length_le; omega
      have o02 : Off a H H2 := ho01.trans r.2
      have hp2 := r.1
      have hdm2 : Dp K (del H2 a) (.ref p) (dMo sg R k) := Dp.same (off_del o02) hdm
      have hM2 := hM.nl (NL.off hp o02)
      have hkin := hGd.kin
      have hGt := M74.tk_good hGd S
      have hd2 := Dp.same (del_same H2 a) hdm2
      refine ⟨_, rfl, D, _, rfl, .inl (.inl (.inl hD)), fun hn nhn => ?_⟩
      have s3 := same_upd (o := .lst (nV S)) nhn
      have hh3 := upd_same (H := H2) (a := hn) (o := .lst (nV S))
      have nDh : D ≠ hn := ne_of_none hD nhn
      generalize upd H2 hn (.lst (nV S)) = H3 at *
      refine ⟨_, rfl, _, rfl, sg, .ref p, D, S, R, k, rfl, Dp.same s3 hd2, .inl (.inl (s3 _ _ hD)), by omega, fun H4 y4 s34 ny4 hdt => ?_⟩
      refine ⟨sg, .ref y4, R, M74.tk k S, rfl, hl, hdt, hGt, fun H5 due s45 ndue hMdue => ?_⟩
      refine ⟨_, _, rfl, ?_⟩
      have s35 := s34.trans s45
      have s25 := s3.trans s35
      have hh5 := s35 _ _ hh3
      refine ⟨_, rfl, _, rfl, x, .ref hn, S, sg, R, k, rfl, hM2.same s25, sq_list (.inl (.inl hh5)), hSnd, hSlt, fun H6 t0 s56 n0 hM0 => ?_⟩
      have s26 := s25.trans s56
      refine ⟨_, rfl, D, _, rfl, .inl ⟨.inl (.inl (s26 _ _ hD)), fun tp ntp => ?_⟩⟩
      have s67 := same_upd (o := .tup (nV S)) ntp
      have htp := upd_same (H := H6) (a := tp) (o := .tup (nV S))
      generalize upd H6 tp (.tup (nV S)) = H7 at *
      have s27 := s26.trans s67
      refine ⟨_, rfl, x, .ref tp, S, sg, R, k, rfl, hM2.same s27, sq_tuple (.inl (.inl htp)), hSnd, hSlt, fun H8 t1 s78 n1 hM1 => ?_⟩
      have s28 := s27.trans s78
      refine ⟨_, rfl, _, rfl, D, _, rfl, .inl (.inl (s28 _ _ hD)), fun rp nrp => ?_⟩
      have s89 := same_upd (o := .lst (nV S).reverse) nrp
      have hrp := upd_same (H := H8) (a := rp) (o := .lst (nV S).reverse)
      generalize upd H8 rp (.lst (nV S).reverse) = H9 at *
      have s29 := s28.trans s89
      have erev : (nV S).reverse = nV S.reverse := by unfold nV; rw [List.map_reverse]
      rw [erev] at hrp
      refine ⟨x, .ref rp, S.reverse, sg, R, k, rfl, hM2.same s29, sq_list (.inl (.inl hrp)), (List.reverse_perm S).nodup_iff.mpr hSnd, fun p hp => hSlt p (List.mem_reverse.mp hp), fun H10 t2 s910 n2 hM2' => ?_⟩
      rw [M74.tk_iff (T := S) (fun i => List.mem_reverse)] at hM2'
      refine ⟨by show 3 ≤ sizeLine; decide, fun TL nTL => ?_⟩
      have nhT : hn ≠ TL := ne_of_none ((((((s56.trans s67).trans s78).trans s89).trans s910)) _ _ hh5) nTL
      have s1011 := same_upd (o := .lst [.ref t0, .ref t1, .ref t2]) nTL
      have hTL := upd_same (H := H10) (a := TL) (o := .lst [.ref t0, .ref t1, .ref t2])
      have s211 := (s29.trans s910).trans s1011
      have s511 : Same H5 (upd H10 TL (.lst [.ref t0, .ref t1, .ref t2])) := ((((s56.trans s67).trans s78).trans s89).trans s910).trans s1011
      have s611 := ((((s67).trans s78).trans s89).trans s910).trans s1011
      have s811 := (((s89).trans s910).trans s1011)
      generalize upd H10 TL (.lst [.ref t0, .ref t1, .ref t2]) = H11 at *
      have nd0 : t0 ≠ due := fun e => by subst e; obtain ⟨dx, r, qq, hat, _⟩ := hMdue.at_; rw [n0] at hat; cases hat
      have nd1 : t1 ≠ due := fun e => by subst e; obtain ⟨dx, r, qq, hat, _⟩ := (hMdue.same (s56.trans s67)).at_; rw [n1] at hat; cases hat
      have nd2 : t2 ≠ due := fun e => by subst e; obtain ⟨dx, r, qq, hat, _⟩ := (hMdue.same (((s56.trans s67).trans s78).trans s89)).at_; rw [n2] at hat; cases hat
      have hMd := hMdue.same s511
      have hMt0 := hM0.same s611
      have hMt1 := hM1.same s811
      have hMt2 := hM2'.same s1011
      have hD11 := s211 _ _ hD
      have hh11 := s511 _ _ hh5
      have hx11 := hM2.same s211
      clear hM0 hM1 hM2' hMdue s1011 s910 s89 s78 s67 s56 s45 s34 hdt hrp htp n0 n1 n2 nTL ntp nrp s29 s28 s27 s26
      have wS : Wt (.list (dN S)) (31 * 40) 1 := Wt.nats (fun c hc => by have := hSlt c hc; omega) hSlen
      refine ⟨_, rfl, _, rfl, .list (dN S), .list (dN S), .lst (.inl (.inl hh11)) (dpAll_nV S), .lst (.inl (.inl hD11)) (dpAll_nV S), wS.shaped (by decide), wS.shaped (by decide), _, rfl, ite_f ?_ ?_⟩
      · show (!PyData.eqvAll _ _) = false
        rw [eqv_dN]; simp
      refine ⟨_, rfl, _, rfl, by show 1 ≤ sizeLine; decide, fun q1 nq1 => ?_⟩
      have sq1 := same_upd (o := .lst [.ref due]) nq1
      have hq1 := upd_same (H := H11) (a := q1) (o := .lst [.ref due])
      generalize upd H11 q1 (.lst [.ref due]) = H12 at *
      refine ⟨_, _, _, rfl, rfl, hq1, by decide, by decide, by show 1 * 3 ≤ sizeLine; decide, fun q2 nq2 => ?_⟩
      have sq2 := same_upd (o := .lst (List.replicate (3 : Int).toNat [V.ref due]).flatten) nq2
      have hq2 : upd H12 q2 (.lst (List.replicate (3 : Int).toNat [V.ref due]).flatten) q2 = some (.lst [.ref due, .ref due, .ref due]) := upd_same
      generalize upd H12 q2 (.lst (List.replicate (3 : Int).toNat [V.ref due]).flatten) = H13 at *
      have s1113 := sq1.trans sq2
      refine ⟨TL, q2, _, _, fun _ => true, rfl, rfl, fun H' s' => .inl (.inl ((s1113.trans s') _ _ hTL)), fun H' s' => .inl (.inl (s' _ _ hq2)), rfl, ?_, fun H14 s14 => ?_⟩
      · have key : ∀ t, t ≠ due → Mach T.C_Machine K H13 t sg R (M74.tk k S) → ∀ H', Same H13 H' → (∃ dx fs, H' t = some (.ins T.C_Machine dx fs)) ∧ (∃ dx fs, H' due = some (.ins T.C_Machine dx fs)) ∧ spEqM K T.C_Machine [.ref t, .ref due] H' (fun v H'' => v = .bl true ∧ Same H' H'') E0 := fun t _ hM H' s' => by
          obtain ⟨dx, r, qq, hat, _⟩ := (hM.same s').at_
          have hMd' := (hMd.same s1113).same s'
          obtain ⟨dx', r', qq', hat', _⟩ := hMd'.at_
          refine ⟨⟨_, _, hat⟩, ⟨_, _, hat'⟩, t, .ref due, sg, R, _, rfl, hM.same s', .inl ⟨due, sg, R, _, rfl, hMd', by simp, Same.refl _⟩⟩
        intro i x0 y0 e1 e2
        match i, e1, e2 with
        | 0, e1, e2 => cases e1; cases e2; exact EqStep.own (FnOkG.of (ok_Machine_eq T)) (hr.mono (by decide)) hG T.Machine_eq.b T.Machine_eq.m nd0 first_own (key t0 nd0 (hMt0.same s1113))
        | 1, e1, e2 => cases e1; cases e2; exact EqStep.own (FnOkG.of (ok_Machine_eq T)) (hr.mono (by decide)) hG T.Machine_eq.b T.Machine_eq.m nd1 first_own (key t1 nd1 (hMt1.same s1113))
        | 2, e1, e2 => cases e1; cases e2; exact EqStep.own (FnOkG.of (ok_Machine_eq T)) (hr.mono (by decide)) hG T.Machine_eq.b T.Machine_eq.m nd2 first_own (key t2 nd2 (hMt2.same s1113))
        | n + 3, e1, e2 => simp at e1
      refine ⟨_, rfl, ite_f (by simp) ?_⟩
      have s1114 := s1113.trans s14
      have hlen3 : (listText [spk sg R (M74.tk k S), spk sg R (M74.tk k S), spk sg R (M74.tk k S)]).length ≤ sizeLine := by
        have h1 := spk_len hl hGt.toSht
        have h2 := list3_len (spk sg R (M74.tk k S))
        rw [sizeLine_eq]; omega
      have kr : ∀ t H14, Mach T.C_Machine K H14 t sg R (M74.tk k S) → ∀ H', Same H14 H' → (∃ dx fs, H' t = some (.ins T.C_Machine dx fs)) ∧ spRepr K T.C_Machine [.ref t] H' (fun v H'' => v = .str (spk sg R (M74.tk k S)) ∧ Same H' H'') E0 := fun t H14 hM H' s' => by
        obtain ⟨dx, r, qq, hat, _⟩ := (hM.same s').at_
        exact ⟨⟨_, _, hat⟩, t, sg, R, _, rfl, hM.same s', fun H'' s'' => ⟨rfl, s''⟩⟩
      have hzk : (spk sg R (M74.tk k S)).length ≤ sizeLine := by have h1 := spk_len hl hGt.toSht; rw [sizeLine_eq]; omega
      obtain ⟨dx0, fs0, hat0⟩ := (kr t0 H14 (hMt0.same s1114) H14 (Same.refl _)).1
      refine ⟨_, rfl, TL, t0, T.C_Machine, dx0, _, [spk sg R (M74.tk k S), spk sg R (M74.tk k S), spk sg R (M74.tk k S)], fs0, rfl, s1114 _ _ hTL, by simp, hat0, rfl, ?_, hlen3, fun H15 s15 => ?_⟩
      · intro i x0 u0 e1 e2
        match i, e1, e2 with
        | 0, e1, e2 => cases e1; cases e2; exact ReprStep.own (ok_Machine_repr T) T.Machine_repr.b T.Machine_repr.m (kr t0 _ (hMt0.same s1114)) hzk
        | 1, e1, e2 => cases e1; cases e2; exact ReprStep.own (ok_Machine_repr T) T.Machine_repr.b T.Machine_repr.m (kr t1 _ (hMt1.same s1114)) hzk
        | 2, e1, e2 => cases e1; cases e2; exact ReprStep.own (ok_Machine_repr T) T.Machine_repr.b T.Machine_repr.m (kr t2 _ (hMt2.same s1114)) hzk
        | n + 3, e1, e2 => simp at e1
      refine ⟨_, rfl, by show 1 ≤ sizeLine; decide, fun q3 nq3 => ?_⟩
      have sq3 := same_upd (o := .lst [.ref due]) nq3
      have hq3 := upd_same (H := H15) (a := q3) (o := .lst [.ref due])
      generalize upd H15 q3 (.lst [.ref due]) = H16 at *
      refine ⟨_, _, _, rfl, rfl, hq3, by decide, by decide, by show 1 * 3 ≤ sizeLine; decide, fun q4 nq4 => ?_⟩
      have sq4 := same_upd (o := .lst (List.replicate (3 : Int).toNat [V.ref due]).flatten) nq4
      have hq4 : upd H16 q4 (.lst (List.replicate (3 : Int).toNat [V.ref due]).flatten) q4 = some (.lst [.ref due, .ref due, .ref due]) := upd_same
      generalize upd H16 q4 (.lst (List.replicate (3 : Int).toNat [V.ref due]).flatten) = H17 at *
      have s1117 := ((s1114.trans s15).trans sq3).trans sq4
      obtain ⟨dxd, fsd, hatd⟩ := (kr due H17 (hMd.same s1117) H17 (Same.refl _)).1
      refine ⟨q4, due, T.C_Machine, dxd, _, [spk sg R (M74.tk k S), spk sg R (M74.tk k S), spk sg R (M74.tk k S)], fsd, rfl, hq4, by simp, hatd, rfl, ?_, hlen3, fun H18 s18 => ?_⟩
      · intro i x0 u0 e1 e2
        match i, e1, e2 with
        | 0, e1, e2 => cases e1; cases e2; exact ReprStep.own (ok_Machine_repr T) T.Machine_repr.b T.Machine_repr.m (kr due _ (hMd.same s1117)) hzk
        | 1, e1, e2 => cases e1; cases e2; exact ReprStep.own (ok_Machine_repr T) T.Machine_repr.b T.Machine_repr.m (kr due _ (hMd.same s1117)) hzk
        | 2, e1, e2 => cases e1; cases e2; exact ReprStep.own (ok_Machine_repr T) T.Machine_repr.b T.Machine_repr.m (kr due _ (hMd.same s1117)) hzk
        | n + 3, e1, e2 => simp at e1
      refine ⟨rfl, _, rfl, ite_f (by simp) ?_⟩
      have s1118 := s1117.trans s18
      have hh18 := s1118 _ _ hh11
      have hD18 := s1118 _ _ hD11
      have hTL18 := s1118 _ _ hTL
      refine ⟨_, rfl, .inl ⟨rfl, _, .inl (.inl hh18)⟩, hn, _, _, rfl, rfl, hh18, by rw [nV_len]; exact Nat.lt_of_lt_of_le (by omega : S.length < 41) (sz (by omega)), ?_⟩
      have nl18 : NL H18 (upd H18 hn (.lst (nV S ++ [.non]))) := NL.upd hh18
      have s219 : Same H2 (upd H18 hn (.lst (nV S ++ [.non]))) := same_up (s211.trans s1118) nhn
      have hD19 : upd H18 hn (.lst (nV S ++ [.non])) D = some (.lst (nV S)) := by rw [upd_ne nDh]; exact hD18
      have hTL19 : upd H18 hn (.lst (nV S ++ [.non])) TL = some (.lst [.ref t0, .ref t1, .ref t2]) := by rw [upd_ne nhT.symm]; exact hTL18
      have hMd19 := (hMd.same s1118).nl nl18
      have hMt19 := (hMt0.same s1118).nl nl18
      generalize upd H18 hn (.lst (nV S ++ [.non])) = H19 at *
      have hx19 := hM2.same s219
      obtain ⟨_, va2, vb2, e, hS2, h12, h22⟩ := dp_model hd2
      cases e
      refine ⟨_, rfl, p, _, ((0 : Nat) : Int), tx sg, rfl, rfl, sqT_same hS2 s219, rfl, sg, 3, rfl, hsl, by decide, fun H20 wl ts s20 nwl hwl htsl hts => ?_⟩
      refine ⟨wl, rfl, ⟨_, .inl (.inl hwl)⟩, for_it (walk_list (xs := ts.map tx)) (fun j σ H' => ∃ s8, σ = [some (.ref a), some (.ref p), some (.ref x), some (.ref D), none, some (.ref hn), some (.ref due), some (.ref TL), s8, none] ∧ Same H20 H')
        ⟨_, rfl, Same.refl _⟩ (fun j σ H' _ pp => by obtain ⟨_, _, s'⟩ := pp; exact .inl (.inl (s' _ _ hwl))) (fun j x0 σ H21 H22 hj pp y => ?_) (fun σ H21 pp => ?_)⟩
      · obtain ⟨s8, rfl, s21⟩ := pp
        obtain ⟨rfl, y⟩ := y
        rw [List.getElem?_map] at y
        obtain ⟨t, ht, rfl⟩ := Option.map_eq_some_iff.mp y
        obtain ⟨ht1, ht2⟩ := hts t (List.mem_of_getElem? ht)
        have s1922 := s20.trans s21
        have hMt22 := hMt19.same s1922
        obtain ⟨dxt, rt, qt, hatt, _⟩ := hMt22.at_
        refine ⟨_, rfl, TL, _, ((0 : Nat) : Int), .ref t0, rfl, rfl, .inl (.inl (s1922 _ _ hTL19)), rfl, t0, dxt, _, rfl, hatt, rfl, _, rfl, t0, t, sg, R, _, rfl, hMt22, by omega, ht2, fun H23 s23 => ?_⟩
        generalize hb : M14.kAt (M74.tk k S) (M14.led sg R 0 t) = b
        have sb1 : (PyData.bool b).showable = true := rfl
        have sb2 : (PyData.bool b).shown.length ≤ sizeLine := by cases b <;> decide +kernel
        have sb3 : (PyData.bool b).depth ≤ 50 := by cases b <;> decide +kernel
        refine ⟨_, _, rfl, .bl b, sb1, sb2, sb3, ?_⟩
        have s223 := (s219.trans s1922).trans s23
        refine ⟨_, rfl, _, rfl, sg, .ref p, D, S, R, k, rfl, Dp.same s223 hd2, .inl (.inl (s223 _ _ hD)), by omega, fun H24 y24 s24 ny24 hdy => ?_⟩
        refine ⟨_, rfl, sg, .ref y24, t, R, _, rfl, hdy, hGt.toSht, ht2, ?_⟩
        rw [hb]
        refine ⟨_, _, rfl, .bl b, sb1, sb2, sb3, ?_⟩
        refine ⟨rfl, _, rfl, ite_f (by simp) ?_⟩
        exact ⟨_, rfl, (s21.trans s23).trans s24⟩
      obtain ⟨s8, rfl, s21⟩ := pp
      have s1921 := s20.trans s21
      have s221 := s219.trans s1921
      have hD21 := s221 _ _ hD
      have hp21 := hp2.same s221
      have hMd21 := hMd19.same s1921
      have hMt21 := hMt19.same s1921
      have hx21 := hx19.same s1921
      have hTL21 := s1921 _ _ hTL19
      refine ⟨_, rfl, ?_⟩
      refine ⟨_, rfl, _, rfl, a, D, S, rfl, hp21, naD.symm, .inl (.inl hD21), by omega, fun H24 ML l2 hp2' hp24 ho24 nML hML => ?_⟩
      have o224 : Off a H2 H24 := (Off.of s221).trans ho24
      have nl24 := NL.off hp21 ho24
      have hMd24 := hMd21.nl nl24
      have hMt24 := hMt21.nl nl24
      have hx24 := hx21.nl nl24
      have hD24 := ho24 _ _ hD21 naD.symm
      have naTL : TL ≠ a := fun e => by
        obtain ⟨x1, y1, e1, _⟩ := hp21
        rw [← e, hTL21] at e1
        have := HO.lst.inj (Option.some.inj e1)
        cases this
      have hTL24 := ho24 _ _ hTL21 naTL
      have hl2nd : l2.Nodup := hp2'.nodup_iff.mpr hSnd
      refine ⟨ML, rfl, ⟨_, .inl (.inl hML)⟩, for_it (walk_list (xs := nV l2)) (fun i σ H' => ∃ s4 y, σ = [some (.ref a), some (.ref p), some (.ref x), some (.ref D), s4, some (.ref hn), some (.ref due), some (.ref TL), s8, some (.ref y)] ∧ Same H24 H' ∧ Mach T.C_Machine K H' y sg R (M74.tk k (l2.take i)))
        ⟨_, x, rfl, Same.refl _, by rw [List.take_zero, M74.tk_nil]; exact hx24⟩ (fun j σ H' _ pp => by obtain ⟨_, _, _, s', _⟩ := pp; exact .inl (.inl (s' _ _ hML))) (fun i x0 σ H25 H26 hi pp y => ?_) (fun σ H25 pp => ?_)⟩
      · obtain ⟨s4, y1, rfl, s25', hMy⟩ := pp
        obtain ⟨rfl, hy⟩ := y
        obtain ⟨g, hg, rfl⟩ := nV_inv hy
        have hgm : g ∈ S := hp2'.mem_iff.mp (List.mem_of_getElem? hg)
        refine ⟨_, rfl, _, rfl, by show 1 ≤ sizeLine; decide, fun z nz => ?_⟩
        have sz' := same_upd (o := .lst [.int (g : Int)]) nz
        refine ⟨y1, .ref z, [g], sg, R, _, rfl, hMy.same sz', sq_list (.inl (.inl upd_same)), by simp, fun p hp => by rw [List.mem_singleton.mp hp]; exact hSlt g hgm, fun H27 y2 s27 ny2 hMy2 => ?_⟩
        refine ⟨_, y2, rfl, (s25'.trans sz').trans s27, ?_⟩
        rw [M74.tk_snoc] at hMy2
        · rw [List.take_add_one, hg]; exact hMy2
        · intro hm
          obtain ⟨j, hj⟩ := List.mem_iff_getElem?.mp hm
          have hj1 := (List.getElem?_eq_some_iff.mp hj).1
          rw [List.length_take] at hj1
          rw [List.getElem?_take_of_lt (by omega)] at hj
          obtain ⟨q1, q2⟩ := List.getElem?_eq_some_iff.mp hj
          obtain ⟨q3, q4⟩ := List.getElem?_eq_some_iff.mp hg
          exact List.pairwise_iff_getElem.mp hl2nd j i q1 q3 (by omega) (q2.trans q4.symm)
      obtain ⟨s4, y1, rfl, s25', hMy⟩ := pp
      rw [nV_len, List.take_of_length_le (Nat.le_refl _), M74.tk_iff (T := S) (fun i => hp2'.mem_iff)] at hMy
      refine ⟨_, rfl, _, rfl, neM T hMy (hMd24.same s25') ?_⟩
      rw [sameM_self]
      refine ⟨false, rfl, iteF ?_⟩
      refine ⟨_, rfl, _, rfl, due, .ref D, S, sg, R, _, rfl, hMd24.same s25', sq_list (.inl (.inl (s25' _ _ hD24))), hSnd, hSlt, fun H26 y3 s26 ny3 hMy3 => ?_⟩
      rw [M74.tk_twice] at hMy3
      refine ⟨_, rfl, neM T hMy3 (hx24.same (s25'.trans s26)) ?_⟩
      rw [sameM_self]
      refine ⟨false, rfl, iteF ?_⟩
      refine ⟨_, rfl, by show 0 ≤ sizeLine; decide, fun z nz => ?_⟩
      have sz' := same_upd (o := .lst []) nz
      have s2427 := (s25'.trans s26).trans sz'
      refine ⟨x, .ref z, [], sg, R, k, rfl, hx24.same s2427, sq_list (.inl (.inl upd_same)), List.nodup_nil, fun p hp => (by cases hp), fun H28 y4 s28 ny4 hMy4 => ?_⟩
      rw [M74.tk_nil] at hMy4
      have s2428 := s2427.trans s28
      refine ⟨_, rfl, neM T hMy4 (hx24.same s2428) ?_⟩
      rw [sameM_self]
      refine ⟨false, rfl, iteF ?_⟩
      have hTL28 := s2428 _ _ hTL24
      have hMt28 := hMt24.same s2428
      obtain ⟨dxt, rt, qt, hatt, _⟩ := id hMt28.at_
      refine ⟨_, rfl, TL, _, ((0 : Nat) : Int), .ref t0, rfl, rfl, .inl (.inl hTL28), rfl, t0, dxt, _, rfl, hatt, rfl, t0, sg, R, _, rfl, hMt28, fun kp nkp => ?_⟩
      refine ⟨.inl ⟨rfl, _, .inl (.inl upd_same)⟩, kp, _, _, rfl, rfl, upd_same, by rw [List.length_map, M74.tk_len]; exact Nat.lt_of_lt_of_le (by omega : k.length < 41) (sz (by omega)), ?_⟩
      rw [upd_upd]
      have s2829 := same_upd (o := .lst ((M74.tk k S).map V.bl ++ [.non])) nkp
      generalize upd H28 kp (.lst ((M74.tk k S).map V.bl ++ [.non])) = H29 at *
      refine ⟨_, rfl, TL, _, ((0 : Nat) : Int), .ref t0, rfl, rfl, .inl (.inl (s2829 _ _ hTL28)), rfl, t0, dxt, _, rfl, s2829 _ _ hatt, rfl, t0, sg, R, _, rfl, hMt28.same s2829, fun H30 rp s30 nrp hNR => ?_⟩
      obtain ⟨xsr, hrp, hxrl, hxr⟩ := hNR
      obtain ⟨x0, hx0⟩ : ∃ x0, xsr[0]? = some x0 := ⟨_, List.getElem?_eq_getElem (by omega)⟩
      obtain ⟨q0, rfl, hq29, hqr, hq30⟩ := hxr 0 x0 hx0
      refine ⟨rp, xsr, ((0 : Nat) : Int), .ref q0, rfl, rfl, .inl (.inl hrp), atI_nat hx0, .inl ⟨rfl, _, .inl (.inl hq30)⟩, q0, _, rfl, rfl, hq30, ?_⟩
      have s2931 : Same H29 (upd H30 q0 (.lst [])) := same_up s30 hq29
      generalize upd H30 q0 (.lst []) = H31 at *
      have s2831 := s2829.trans s2931
      have s2431 := s2428.trans s2831
      refine ⟨_, rfl, TL, _, ((0 : Nat) : Int), .ref t0, rfl, rfl, .inl (.inl (s2831 _ _ hTL28)), rfl, _, rfl, eqM T (hMt28.same s2831) (hMd24.same s2431) ?_⟩
      rw [sameM_self]
      have hdm31 : Dp K (del H31 a) (.ref p) (dMo sg R k) := Dp.same (off_del (o224.trans (Off.of s2431))) hdm2
      obtain ⟨_, va3, vb3, e, hS3, h13, h23⟩ := dp_model (Dp.same (del_same _ _) hdm31)
      cases e
      obtain ⟨b3, ys3, rfl, hSb3, hAb3⟩ := dp_list h13
      have hyl3 : ys3.length = R.length := by rw [dpAll_len hAb3, List.length_map]
      refine ⟨true, rfl, ?_⟩
      refine ⟨_, rfl, _, rfl, p, _, ((1 : Nat) : Int), .ref b3, rfl, rfl, hS3, rfl, b3, ys3, rfl, .inl hSb3, _, rfl, RgOk.of_le (by decide) (by omega) (by decide) (by omega), fun z2 nz2 => ?_⟩
      rw [hyl3, rgV_0]
      have sz2 := same_upd (o := .lst (nV (List.range R.length))) nz2
      refine ⟨x, .ref z2, List.range R.length, sg, R, k, rfl, hx24.same (s2431.trans sz2), sq_list (.inl (.inl upd_same)), List.nodup_range, fun p hp => List.mem_range.mp hp, fun H33 y5 s33 ny5 hMy5 => ?_⟩
      rw [M74.tk_all (fun i hi => List.mem_range.mpr (by omega))] at hMy5
      have s2433 := (s2431.trans sz2).trans s33
      have hx33 := hx24.same s2433
      obtain ⟨dxx, rxx, qxx, hatx, _⟩ := id hx33.at_
      refine ⟨_, rfl, x, dxx, _, rfl, hatx, x, sg, R, k, rfl, hx33, fun H34 y6 s34 ny6 hMy6 => ?_⟩
      refine eqM T (hMy5.same s34) hMy6 ?_
      rw [sameM_self]
      have s2434 := s2433.trans s34
      exact q _ ((hp24.same s2434)) ((o02.trans o224).trans (Off.of s2434))
end
end Lw
namespace Lw
open PySem PySem.Spec PyProof.Rows L3
open L2 hiding del del_same del_ne
theorem all_id_rep (n : Nat) : (List.replicate n true).all id = true := by
  induction n with
  | zero => rfl
  | succ n ih => rw [List.replicate_succ, List.all_cons, ih]; rfl
/-- each place has the next one among its goals: all are come to -/
theorem ring_all {R : List (List Nat)} (v : M14.Val R) (hne : 0 < R.length) (h : ∀ j, j < R.length → (j + 1) % R.length ∈ M14.row R j) : ∀ p, p < R.length → p ∈ M14.met R 0
  | 0, _ => M14.met_self R 0
  | p + 1, hp => by
    have h1 := ring_all v hne h p (by omega)
    have h2 := h p (by omega)
    rw [Nat.mod_eq_of_lt hp] at h2
    exact M14.met_closed v hne h1 h2
section
variable {w : World} {K : PySem.W.Frag} {mg : Str → Option Value} {base : Heap}
/-! ### _law_great_right -/
def spPotTrue : Sp := fun vs H Q _ => ∃ (a : Addr), vs = [.ref a] ∧ Pot H a ∧ ∀ H', Pot H' a → Off a H H' → Q (.bl true) H'
theorem ok_law_great_right (T : All K mg) : FnOkG PW w K mg base CX0 11 T.f_law_great_right T.d_law_great_right ["_law_pot_here"] spPotTrue := by
  refine okG T.law_great_right.F sc_law_great_right (fun vs H Q E h => ?_) (fun cdv A outer s H vs Q E hr hG h => ?_)
  · obtain ⟨a, rfl, _⟩ := h
    rfl
  · obtain ⟨a, rfl, hp, q⟩ := h
    refine ⟨_, pss_cons (ps_asg (pe_tup (pa_cons (pe_call (ok_law_signs T) (hr.mono (by decide)) (by rfl) T.law_signs.g T.law_signs.F.kp T.law_signs.b .nil pass0 (pa_cons (pv 0) pa_nil)) (pa_cons (pe_op op_add pe_int (pe_call (ok_law_draw T) (hr.mono (by decide)) (by rfl) T.law_draw.g T.law_draw.F.kp T.law_draw.b .nil pass0 (pa_cons (pv 0) (pa_cons pe_int pa_nil)))) pa_nil))) (pg_tup rfl (pgs_cons (pg_name (i := 1) sc_law_great_right.nd rfl (by first | exact Or.inl rfl | exact Or.inr rfl)) (pgs_cons (pg_name (i := 2) sc_law_great_right.nd rfl (by first | exact Or.inl rfl | exact Or.inr rfl)) pgs_nil))))
      (pss_cons (ps_setLc (i := 3) (own := [("_law_spot", 5)]) (g := gName 5) (tt := tYes) (by rfl) sc_law_great_right.nd rfl rfl (sw_true rfl rfl rfl (by decide +kernel)) (pi_range1 rfl T.b_range (pa_cons (pv 2) pa_nil))
          (blkOk_by (own := [("_law_spot", 5)]) (N := ["_law_pot_here", "_law_signs_here", "_law_many", "_law_rows_here", "_law_sign", "_law_spot", "_law_model_here", "_law_row", "_law_net", "_law_turn", "_law_at", "_law_goal_now", "_law_later", "_law_told"]) (sc := defScope s_law_great_right) (by decide +kernel))
          (fun _ _ _ _ _ => pg_name (i := 5) sc_law_great_right.nd rfl (by first | exact Or.inl rfl | exact Or.inr rfl)) (fun _ _ _ _ _ => pts_nil)
          (fun _ _ _ _ _ => (pe_op op_cat (pe_lst (pa_cons (pe_op op_mod (pe_callTy call_int1 (by rfl) T.b_int PyProof.Rows.boot_int (pa_cons (pe_op op_add (pv 5) pe_int) pa_nil)) (pv 2)) pa_nil)) (pe_lc (own := [("_law_sign", 4)]) (g := gName 4) (tt := tYes) rfl sc_law_great_right.nd (pi_str (pe_slice sl_tx (pv 1) (po_some pe_int) po_none))
          (blkOk_by (own := [("_law_sign", 4)]) (N := ["_law_pot_here", "_law_signs_here", "_law_many", "_law_rows_here", "_law_sign", "_law_spot", "_law_model_here", "_law_row", "_law_net", "_law_turn", "_law_at", "_law_goal_now", "_law_later", "_law_told"]) (by first | kernel_rfl | rfl))
          (fun _ _ _ _ _ => pg_name (i := 4) sc_law_great_right.nd rfl (by first | exact Or.inl rfl | exact Or.inr rfl)) (fun _ _ _ _ _ => pts_nil)
          (fun _ _ _ _ _ => (pe_call (ok_law_draw T) (hr.mono (by decide)) (by rfl) T.law_draw.g T.law_draw.F.kp T.law_draw.b .nil pass0 (pa_cons (pv 0) (pa_cons (pv 2) pa_nil))))))))
      (pss_cons (ps_set (i := 6) sc_law_great_right.nd rfl (by first | exact Or.inl rfl | exact Or.inr rfl) (pe_tup (pa_cons (pv 1) (pa_cons (pv 3) (pa_cons (pe_lc (own := [("_law_row", 7)]) (g := gName 7) (tt := tYes) rfl sc_law_great_right.nd (pi_list (pv 3))
          (blkOk_by (own := [("_law_row", 7)]) (N := ["_law_pot_here", "_law_signs_here", "_law_many", "_law_rows_here", "_law_sign", "_law_spot", "_law_model_here", "_law_row", "_law_net", "_law_turn", "_law_at", "_law_goal_now", "_law_later", "_law_told"]) (sc := defScope s_law_great_right) (by decide +kernel))
          (fun _ _ _ _ _ => pg_name (i := 7) sc_law_great_right.nd rfl (by first | exact Or.inl rfl | exact Or.inr rfl)) (fun _ _ _ _ _ => pts_nil)
          (fun _ _ _ _ _ => (pe_cmpR op_eq (pe_call (ok_law_draw T) (hr.mono (by decide)) (by rfl) T.law_draw.g T.law_draw.F.kp T.law_draw.b .nil pass0 (pa_cons (pv 0) (pa_cons pe_int pa_nil))) pe_int (by rfl)))) pa_nil)))))
      (pss_cons (ps_set (i := 8) sc_law_great_right.nd rfl (by first | exact Or.inl rfl | exact Or.inr rfl) (pe_call (ok_law_machine T) (hr.mono (by decide)) (by rfl) T.law_machine.g T.law_machine.F.kp T.law_machine.b .nil pass0 (pa_cons (pv 6) pa_nil)))
      (pss_cons (ps_for PassesOwn.never rfl (pi_range1 rfl T.b_range (pa_cons pe_int pa_nil)) (pg_name (i := 9) sc_law_great_right.nd rfl (by first | exact Or.inl rfl | exact Or.inr rfl))
        (pss_cons (ps_par3 rfl sc_law_great_right.nd (i := 5) (j := 10) (l := 11) rfl rfl rfl (by decide) (by decide) (by decide) rfl rfl rfl (pa_cons (pe_call (ok_law_draw T) (hr.mono (by decide)) (by rfl) T.law_draw.g T.law_draw.F.kp T.law_draw.b .nil pass0 (pa_cons (pv 0) (pa_cons (pv 2) pa_nil))) (pa_cons (pe_call (ok_law_draw T) (hr.mono (by decide)) (by rfl) T.law_draw.g T.law_draw.F.kp T.law_draw.b .nil pass0 (pa_cons (pv 0) (pa_cons (pe_callB call_lenT (by rfl) T.b_len PySem.boot_len (pa_cons (pv 1) pa_nil)) pa_nil))) (pa_cons (pe_call (ok_law_draw T) (hr.mono (by decide)) (by rfl) T.law_draw.g T.law_draw.F.kp T.law_draw.b .nil pass0 (pa_cons (pv 0) (pa_cons (pv 2) pa_nil))) pa_nil))) (by rfl))
      (pss_cons (ps_setLc (i := 12) (own := [("_law_row", 7)]) (g := gName 7) (tt := tYes) (by rfl) sc_law_great_right.nd rfl rfl (sw_true rfl rfl rfl (by decide +kernel)) (pi_list (pv 3))
          (blkOk_by (own := [("_law_row", 7)]) (N := ["_law_pot_here", "_law_signs_here", "_law_many", "_law_rows_here", "_law_sign", "_law_spot", "_law_model_here", "_law_row", "_law_net", "_law_turn", "_law_at", "_law_goal_now", "_law_later", "_law_told"]) (sc := defScope s_law_great_right) (by decide +kernel))
          (fun _ _ _ _ _ => pg_name (i := 7) sc_law_great_right.nd rfl (by first | exact Or.inl rfl | exact Or.inr rfl)) (fun _ _ _ _ _ => pts_nil)
          (fun _ _ _ _ _ => (pe_callTy (call_list_ofK (K := K) rfl) (by rfl) T.b_list PyProof.Rows.boot_list (pa_cons (pv 7) pa_nil))))
      (pss_cons (ps_asg (pv 11) (pg_sub (pe_ix ix_list (pv 12) (pv 5) (fun _ _ => rfl)) (pv 10) set_list))
      (pss_cons (ps_set (i := 13) sc_law_great_right.nd rfl (by first | exact Or.inl rfl | exact Or.inr rfl) (pe_call (ok_law_led T) (hr.mono (by decide)) (by rfl) T.law_led.g T.law_led.F.kp T.law_led.b .nil pass0 (pa_cons (pv 8) (pa_cons (pv 5) (pa_cons (pe_ix ix_tx (pv 1) (pv 10) (fun _ _ => rfl)) (pa_cons (pv 11) pa_nil))))))
      (pss_cons (ps_if (pt_cmpR op_ne (pe_cmpR op_notN (pv 13) pe_non (by rfl)) (pe_cmpR op_eq (pe_callB call_len_seq (by rfl) T.b_len PySem.boot_len (pa_cons (pe_call (ok_law_met T) (hr.mono (by decide)) (by rfl) T.law_met.g T.law_met.F.kp T.law_met.b .nil pass0 (pa_cons (pv 12) pa_nil)) pa_nil)) (pv 2) (by rfl)) (nomark _)) (pss_one ps_never) pss_nil)
      (pss_one (ps_if (PW.pt (pw_and (pt_cmpR op_notN (pv 13) pe_non (nomark _)) (pw_and1 (pt_cmpR (op_neOwn (FnOkG.of (ok_Machine_eq T)) (hr.mono (by decide)) hG T.Machine_eq.b T.Machine_eq.m (mro_obj T.mk_Machine) T.ne_Machine) (pv 13) (pe_make ⟨T.mk_Machine, T.Machine_init.m.at_, T.Machine_init.m.fn, T.kp_Machine⟩ (ok_Machine_init T) (hr.mono (by decide)) (by rfl) T.g_Machine T.Machine_init.b .nil pass0 (pa_cons (pv 1) (pa_cons (pv 12) (pa_cons (pe_ix ix_tup (pv 6) pe_int (fun _ _ => rfl)) pa_nil)))) (nomark _))))) (pss_one ps_never) pss_nil))))))))
      (pss_one (ps_ret (pe_callB (cr_all rfl) (by rfl) T.b_all PyProof.Rows.boot_all (pa_cons (pe_lc (own := [("_law_turn", 9)]) (g := gName 9) (tt := tYes) rfl sc_law_great_right.nd (pi_range1 rfl T.b_range (pa_cons pe_int pa_nil))
          (blkOk_by (own := [("_law_turn", 9)]) (N := ["_law_pot_here", "_law_signs_here", "_law_many", "_law_rows_here", "_law_sign", "_law_spot", "_law_model_here", "_law_row", "_law_net", "_law_turn", "_law_at", "_law_goal_now", "_law_later", "_law_told"]) (sc := defScope s_law_great_right) (by decide +kernel))
          (fun _ _ _ _ _ => pg_name (i := 9) sc_law_great_right.nd rfl (by first | exact Or.inl rfl | exact Or.inr rfl)) (fun _ _ _ _ _ => pts_nil)
          (fun _ _ _ _ _ => (pe_callG (ok_law_spots_right T) (hr.mono (by decide)) hG (by rfl) T.law_spots_right.g T.law_spots_right.F.kp T.law_spots_right.b pass0 (pa_cons (pv 0) (pa_cons (pv 6) (pa_cons (pv 8) pa_nil)))))) pa_nil)))))))), ?_⟩
    refine ⟨_, rfl, a, rfl, hp, fun H1 sg hl hp1 ho1 => ?_⟩
    refine ⟨_, rfl, a, 32, rfl, hp1, by decide, by decide, fun H2 d hd hp2 ho2 => ⟨_, _, rfl, rfl, ?_⟩⟩
    obtain ⟨m, hm⟩ : ∃ m : Nat, m = 9 + d := ⟨_, rfl⟩
    dsimp only
    rw [show (9 : Int) + (d : Int) = (m : Int) by omega]
    refine ⟨by show 2 ≤ sizeLine; decide, fun tt ntt => ?_⟩
    refine ⟨tt, _, rfl, .inl (.inl upd_same), rfl, _, _, rfl, _, _, rfl, rfl, ?_⟩
    have hp3 := hp2.same (same_upd (o := .tup [tx sg, .int (m : Int)]) ntt)
    have o03 := (ho1.trans ho2).trans (Off.of (same_upd (o := .tup [tx sg, .int (m : Int)]) ntt))
    generalize upd H2 tt (.tup [tx sg, .int (m : Int)]) = H3 at *
    have hls := hl.few
    have hlp := hl.ne
    have zsg : sg.length ≤ sizeLine := sz (by omega)
    refine ⟨_, rfl, _, rfl, by omega, by omega, fun D nD => ?_⟩
    rw [show ((m : Int)).toNat = m by omega]
    have naD : a ≠ D := hp3.ne nD
    refine lc_dp walk_range (fun i acc H' => Pot H' a ∧ Off a H3 H' ∧ ∃ Rp : List (List Nat), DpAll K (del H' a) acc (Rp.map fun r => .list (dN r)) ∧ Rp.length = i ∧ ∀ (j : Nat) r, Rp[j]? = some r → r.length = sg.length ∧ (j + 1) % m ∈ r ∧ ∀ g ∈ r, g < m) (sz (by omega)) (fun i acc H' pp => by obtain ⟨_, _, Rp, h, e, _⟩ := pp; rw [dpAll_len h, List.length_map, e]; exact Nat.le_refl _) nD
      ⟨hp3, Off.refl _ _, [], .nil, rfl, fun j r e => by simp at e⟩ (fun _ _ _ _ _ => trivial) (fun i x Hh H' acc C N hi pp hD3 y c nn => ?_) (fun H9 xs9 hD9 pp => ?_)
    · obtain ⟨rfl, rfl⟩ := y
      obtain ⟨hpp, hoo, Rp, hAll, hRl, hRp⟩ := pp
      have hpH := pot_in hpp
      dsimp only
      rw [show (0 : Int) + (i : Int) = (i : Int) by omega]
      refine ⟨rfl, yes_te ?_⟩
      refine ⟨_, rfl, _, _, rfl, rfl, .inl ⟨_, rfl, _, rfl, _, _, rfl, rfl, (by show (0 : Int) < (m : Int); omega), by show 1 ≤ sizeLine; decide, fun l1 nl1 => ?_⟩⟩
      have emod : (fun i j : Int => V.int (i % j)) ((i : Int) + 1) (m : Int) = V.int (((i + 1) % m : Nat) : Int) := by
        show V.int (((i : Int) + 1) % (m : Int)) = _
        push_cast; rfl
      rw [emod]
      have nl1a : l1 ≠ a := fun e => hpH.ne nl1 e.symm
      have sl1 := same_upd (o := .lst [V.int (((i + 1) % m : Nat) : Int)]) nl1
      have hl1 := upd_same (H := H') (a := l1) (o := .lst [V.int (((i + 1) % m : Nat) : Int)])
      have nl1D : l1 ≠ D := fun e => by rw [e, hD3] at nl1; cases nl1
      generalize upd H' l1 (.lst [V.int (((i + 1) % m : Nat) : Int)]) = H5 at *
      have hp5 := hpH.same sl1
      refine ⟨_, rfl, _, rfl, sg, rfl, zsg, .inr ⟨rfl, 1, rfl, tS (sg.drop 1), rfl, fun D2 nD2 => ?_⟩⟩
      have naD2 : a ≠ D2 := hp5.ne nD2
      refine lc_gen2 walk_tx (fun H6 => Pot H6 a ∧ Off a H5 H6) (fun j acc2 => ∃ zs, acc2 = nV zs ∧ zs.length = j ∧ ∀ g ∈ zs, g < m) (sz (by rw [List.length_drop]; omega)) (fun j acc2 e => by obtain ⟨zs, e, h, _⟩ := e; rw [e, nV_len, h]; exact Nat.le_refl _) ⟨[], rfl, rfl, fun g hg => by cases hg⟩
        ⟨hp5.up naD2, Off.of (same_upd nD2)⟩ (fun H6 ac ac' hD2 r => ⟨r.1.up naD2, r.2.up nD2⟩) (fun _ _ => trivial) (fun j x H6 H7 acc2 C2 N2 hj r hD2 ha y2 c2 n2 => ?_) (fun H6 zz r hD2 ha => ?_)
      · obtain ⟨rfl, ch, hch, rfl⟩ := y2
        obtain ⟨zs, rfl, hzl, hzm⟩ := ha
        refine ⟨rfl, yes_te ⟨_, rfl, _, rfl, a, m, rfl, r.1, by omega, by omega, fun H8 g hg hp8 ho8 => ?_⟩⟩
        refine c2 _ _ ⟨hp8, r.2.trans ho8⟩ (ho8 _ _ hD2 naD2.symm) ⟨zs ++ [g], (nV_snoc _ _).symm, by rw [List.length_append, hzl]; rfl, fun z hz => ?_⟩
        rcases List.mem_append.mp hz with hz | hz
        · exact hzm z hz
        · rw [List.mem_singleton.mp hz]; exact hg
      · obtain ⟨zs, rfl, hzl, hzm⟩ := ha
        rw [List.length_drop] at hzl
        have hl16 := r.2 _ _ hl1 nl1a
        refine ⟨l1, D2, _, _, rfl, rfl, hl16, hD2, by rw [nV_len]; exact sz (by show 1 + _ ≤ _; omega), fun p5 np5 => ?_⟩
        have nap5 : a ≠ p5 := r.1.ne np5
        have o58 : Off a H' (upd H6 p5 (.lst ([V.int (((i + 1) % m : Nat) : Int)] ++ nV zs))) := ((Off.of sl1).trans r.2).trans (Off.of (same_upd np5))
        have hD6 := (Off.of sl1 (a := a)).trans r.2 _ _ hD3 naD.symm
        have nDp5 : D ≠ p5 := ne_of_none hD6 np5
        refine c _ _ (by rw [upd_ne nDp5]; exact hD6) ⟨pot_out (r.1.up nap5) naD, off_step hoo o58, Rp ++ [(i + 1) % m :: zs], ?_, by rw [List.length_append, hRl]; rfl, fun j r' e => ?_⟩
        · rw [List.map_append]
          refine dpAll_snoc (DpAll.same (off_dd o58) hAll) (.lst (.inl (.inl ?_)) (dpAll_nV ((i + 1) % m :: zs)))
          rw [del_ne nap5.symm, del_ne nDp5.symm, upd_same]
          rfl
        · by_cases hj : j < Rp.length
          · rw [List.getElem?_append_left hj] at e
            exact hRp j r' e
          · have hji : j = i := by
              have := (List.getElem?_eq_some_iff.mp e).1
              rw [List.length_append, List.length_singleton] at this
              omega
            subst hji
            rw [List.getElem?_append_right (by omega), hRl, Nat.sub_self] at e
            cases e
            refine ⟨by rw [List.length_cons, hzl]; omega, List.mem_cons_self, fun g hg => ?_⟩
            rcases List.mem_cons.mp hg with rfl | hg
            · exact Nat.mod_lt _ (by omega)
            · exact hzm g hg
    · obtain ⟨hp9', o39', R, hAll, hRl, hRp⟩ := pp
      have hp9 := pot_in hp9'
      have o09 := o03.trans (off_in o39')
      have hval : M14.Val R := fun p hp g hg => by
        rw [hRl]
        exact (hRp p _ (M14.row_at hp)).2.2 g hg
      have hGk : ∀ k : List Bool, k.length = m → M14.Good sg.length R k := fun k hk => ⟨⟨by omega, by omega, fun r hr => by
        obtain ⟨j, hj⟩ := List.mem_iff_getElem?.mp hr
        exact (hRp j r hj).1, hval, by rw [hk, hRl]⟩, ring_all hval (by omega) fun j hj => by
          rw [hRl]
          exact (hRp j _ (M14.row_at hj)).2.1⟩
      have hdR : Dp K (del H9 a) (.ref D) (dLR R) := .lst (.inl (.inl (by rw [del_ne naD.symm]; exact hD9))) (DpAll.same (del_mono a (del_same _ _)) hAll)
      have hxl : xs9.length = m := by rw [dpAll_len hAll, List.length_map, hRl]
      refine ⟨_, rfl, _, rfl, _, rfl, D, rfl, ⟨_, .inl (.inl hD9)⟩, fun D3 nD3 => ?_⟩
      have naD3 : a ≠ D3 := hp9.ne nD3
      refine lc_dp (walk_list (xs := xs9)) (fun i acc H' => Pot H' a ∧ Off a H9 H' ∧ ∃ k : List Bool, acc = k.map V.bl ∧ k.length = i) (sz (by omega)) (fun i acc H' p => by obtain ⟨_, _, k, e, h⟩ := p; rw [e, List.length_map]; omega) nD3 ⟨hp9, Off.refl _ _, [], rfl, rfl⟩ (fun i acc H' p _ => .inl (.inl (off_in p.2.1 _ _ hD9 naD.symm))) (fun i x Hh H' acc C N hi p hD3 y c nn => ?_) (fun H10 xs10 hD10 p => ?_)
      · obtain ⟨rfl, _⟩ := y
        obtain ⟨hpp, hoo, k, ek, hk⟩ := p
        refine ⟨rfl, yes_te ⟨_, rfl, a, 2, rfl, pot_in hpp, by decide, by decide, fun H4 g hg hp4 ho4 => ⟨rfl, ?_⟩⟩⟩
        exact c _ _ (ho4 _ _ hD3 naD3.symm) ⟨pot_out hp4 naD3, off_step hoo ho4, k ++ [decide (V.int (g : Int) = V.int 0)], by rw [ek, List.map_append]; rfl, by rw [List.length_append, hk]; rfl⟩
      obtain ⟨hp10', o910', k, rfl, hk⟩ := p
      have hp10 := pot_in hp10'
      have o910 := off_in o910'
      have hGd := hGk k (by omega)
      refine ⟨by show 3 ≤ sizeLine; decide, fun t nt => ?_⟩
      have st := same_upd (o := .tup [tx sg, .ref D, .ref D3]) nt
      have nta : t ≠ a := fun e => hp10.ne nt e.symm
      have hdR10 := Dp.same (off_del o910) hdR
      have hdm : Dp K (del (upd H10 t (.tup [tx sg, .ref D, .ref D3])) a) (.ref t) (dMo sg R k) := by
        have hDk : Dp K (del H10 a) (.ref D3) (.list (dB k)) := .lst (.inl (.inl (by rw [del_ne naD3.symm]; exact hD10))) (dp_bools _)
        rw [del_new nta]
        have st2 : Same (del H10 a) (upd (del H10 a) t (.tup [tx sg, .ref D, .ref D3])) := same_upd (by rw [del_ne nta]; exact nt)
        exact .tup (.inl (.inl upd_same)) (.cons (.str _) (.cons (Dp.same st2 hdR10) (.cons (Dp.same st2 hDk) .nil)))
      have hp11 := hp10.same st
      have o011 := (o09.trans o910).trans (Off.of st)
      have hd11 := Dp.same (off_del (Off.of st)) hdR10
      generalize upd H10 t (.tup [tx sg, .ref D, .ref D3]) = H11 at *
      refine ⟨_, rfl, sg, .ref t, R, k, rfl, hl, Dp.same (del_same _ _) hdm, hGd, fun H12 x s12 nx hM => ?_⟩
      have hp12 := hp11.same s12
      have o012 := o011.trans (Off.of s12)
      have hdm12 := Dp.same (off_del (Off.of s12)) hdm
      have hd12 := Dp.same (off_del (Off.of s12)) hd11
      have hRm : R.length = m := hRl
      refine ⟨_, rfl, by decide, by decide, ?_⟩
      refine for_it walk_range (fun i σ H' => ∃ s5 s9 s10 s11 s12 s13, σ = [some (.ref a), some (tx sg), some (.int (m : Int)), some (.ref D), none, s5, some (.ref t), none, some (.ref x), s9, s10, s11, s12, s13] ∧ Pot H' a ∧ Off a H12 H')
        ⟨_, _, _, _, _, _, rfl, hp12, Off.refl _ _⟩ (fun _ _ _ _ _ => trivial) (fun e x0 σ H13 H14 he pp y => ?_) (fun σ H13 pp => ?_)
      · obtain ⟨s5, s9, s10, s11, s12', s13, rfl, hp13, o13⟩ := pp
        obtain ⟨rfl, rfl⟩ := y
        refine ⟨_, rfl, _, rfl, a, m, rfl, hp13, by omega, by omega, fun H15 i hi hp15 o15 => ?_⟩
        refine ⟨_, rfl, _, rfl, sg, rfl, zsg, a, sg.length, rfl, hp15, hlp, by omega, fun H16 j hj hp16 o16 => ?_⟩
        refine ⟨_, rfl, _, rfl, a, m, rfl, hp16, by omega, by omega, fun H17 g hg hp17 o17 => ?_⟩
        refine ⟨_, _, _, rfl, ?_⟩
        have o1217 := ((o13.trans o15).trans o16).trans o17
        have hM17 := hM.nl (NL.off hp12 o1217)
        have hd17 := Dp.same (del_same H17 a) (Dp.same (off_del o1217) hd12)
        have hdm17 := Dp.same (del_same H17 a) (Dp.same (off_del o1217) hdm12)
        obtain ⟨D', ys, eD, hSD, hAD⟩ := dp_list hd17
        cases eD
        have hyl : ys.length = R.length := by rw [dpAll_len hAD, List.length_map]
        obtain ⟨tm', va, vb, et, hSt, _, hkt⟩ := dp_model hdm17
        cases et
        obtain ⟨c, hc⟩ : ∃ c, sg[j]? = some c := ⟨_, List.getElem?_eq_getElem hj⟩
        have hcs : c ∈ sg := List.mem_of_getElem? hc
        have hnd : sg.Nodup := hl.up.imp fun h => Nat.ne_of_lt h
        have hix : sg.idxOf c = j := M14.idx_at hnd hc
        rw [← hRm] at hi hg
        have hrl : (M14.row R i).length = sg.length := hGd.len _ (M14.row_mem hi)
        refine ⟨_, rfl, D, rfl, ⟨_, hSD⟩, fun D5 nD5 => ?_⟩
        refine lc_rows (K := K) (walk_list (xs := ys)) hAD hyl hGd.few nD5 (fun H' s' => sq_same hSD s') (fun i H x H' y => y) (fun pa rr H' C s' hS' c => ?_) gName_mono (fun H18 s18 hN => ?_)
        · exact ⟨rfl, _, rfl, pa, _, rfl, .inl hS', c⟩
        obtain ⟨xs, q0, hDx, hx0, hq0, nq, nqD, hput⟩ := hN.put hi
        have hxN := hput j g
        have hix2 : ixN (nV (M14.row R i)).length ((j : Nat) : Int) = some j := ixn_nat (by rw [nV_len]; omega)
        refine ⟨_, rfl, _, rfl, _, rfl, D5, xs, ((i : Nat) : Int), .ref q0, rfl, rfl, .inl (.inl hDx), atI_nat hx0, _, rfl, q0, _, _, _, rfl, rfl, hq0, hix2, ?_⟩
        rw [nV_set]
        have s1719 : Same H17 (upd H18 q0 (.lst (nV ((M14.row R i).set j g)))) := same_up s18 nq
        generalize upd H18 q0 (.lst (nV ((M14.row R i).set j g))) = H19 at *
        have hM19 := hM17.same s1719
        obtain ⟨dxx, rxx, qxx, hatx, _⟩ := id hM19.at_
        have hSh := M74.rd_sht (a := j) hGd.toSht hi hg
        refine ⟨_, rfl, _, rfl, _, rfl, _, rfl, sg, j, c, rfl, rfl, zsg, hc, _, rfl, x, i, c, g, sg, R, k, rfl, hM19, hi, hcs, hg, ?_⟩
        rw [hix]
        refine ⟨fun hGood => fun H20 y s20 ny hMy => ?_, fun hno H20 s20 => ?_⟩
        · have hN20 := hxN.same s20
          have hx20 : H20 x ≠ none := fun e => by rw [s20 _ _ hatx] at e; cases e
          refine ⟨_, rfl, rfl, _, rfl, _, _, x, hx20, rfl, rw_dLR hN20.one.dp, hSh.val, hSh.ne, hSh.few, fun p hp => by rw [hSh.len _ (M14.row_mem hp)]; exact hls, fun H21 pm s21 nm hdmm => ?_⟩
          obtain ⟨_, xm, e, hSm, hAm⟩ := dp_list hdmm
          cases e
          have hml : xm.length = m := by
            rw [dpAll_len hAm, List.length_map]
            unfold M14.fromR M14.ren
            rw [List.length_map, M74.len_of_all hSh hGood.all, M74.rd_len, hRm]
          have s1721 := (s1719.trans s20).trans s21
          refine ⟨pm, xm, rfl, .inl (sq_same hSm (del_same _ _)), _, rfl, rfl, rfl, _, rfl, ite_f (by simp [hml]) ?_⟩
          refine ⟨_, rfl, rfl, _, rfl, ite_t (by simp) ?_⟩
          obtain ⟨b1, zk, rfl, hSk, hAk⟩ := dp_list hkt
          rw [dpAll_bools hAk] at hSk
          refine ⟨_, rfl, _, rfl, _, rfl, _, rfl, t, _, ((2 : Nat) : Int), .ref b1, rfl, rfl, sqT_same hSt s1721, rfl, ?_⟩
          intro z dz nz ndz _
          refine make_ok hl (rw_dLR (Dp.same s21 hN20.one.dp)) (sq_list (sq_same hSk s1721)) hGood nz ndz (fun H22 s22 hMz => ?_)
          refine neM T (hMy.same (s21.trans s22)) hMz ?_
          rw [sameM_self]
          refine ⟨false, rfl, iteF ?_⟩
          exact ⟨_, _, _, _, _, _, rfl, hp17.same (s1721.trans s22), o1217.trans (Off.of (s1721.trans s22))⟩
        · have hN20 := hxN.same s20
          have hx20 : H20 x ≠ none := fun e => by rw [s20 _ _ hatx] at e; cases e
          refine ⟨_, rfl, rfl, _, rfl, _, _, x, hx20, rfl, rw_dLR hN20.one.dp, hSh.val, hSh.ne, hSh.few, fun p hp => by rw [hSh.len _ (M14.row_mem hp)]; exact hls, fun H21 pm s21 nm hdmm => ?_⟩
          obtain ⟨_, xm, e, hSm, hAm⟩ := dp_list hdmm
          cases e
          have hml : xm.length = (M14.met (M74.rd R i j g) 0).length := by
            rw [dpAll_len hAm, List.length_map]
            unfold M14.fromR M14.ren
            rw [List.length_map]
          have hmn : xm.length ≠ m := fun e => hno ((M74.good_iff hSh).mpr (by rw [← hml, e, M74.rd_len, hRm]))
          have hmi : ¬ ((xm.length : Int) = (m : Int)) := by omega
          have s1721 := (s1719.trans s20).trans s21
          refine ⟨pm, xm, rfl, .inl (sq_same hSm (del_same _ _)), _, rfl, rfl, rfl, _, rfl, ite_f (by simp [hmi]) ?_⟩
          refine ⟨_, rfl, rfl, _, rfl, ite_f (by simp) ?_⟩
          exact ⟨_, _, _, _, _, _, rfl, hp17.same s1721, o1217.trans (Off.of s1721)⟩
      · obtain ⟨s5, s9, s10, s11, s12', s13, rfl, hp13, o13⟩ := pp
        refine ⟨_, rfl, by decide, by decide, fun D9 nD9 => ?_⟩
        have naD9 : a ≠ D9 := hp13.ne nD9
        refine lc_gen2 walk_range (fun H' => Pot H' a ∧ Off a H13 H') (fun i acc => acc = List.replicate i (.bl true)) (by decide) (fun i acc e => by rw [e]; simp) rfl
          ⟨hp13.up naD9, Off.of (same_upd nD9)⟩ (fun H' acc acc' hD r => ⟨r.1.up naD9, r.2.up nD9⟩) (fun _ _ => trivial) (fun i x0 H14 H15 acc C N hi r hD ha y c n => ?_) (fun H14 zz r hD ha => ?_)
        · obtain ⟨rfl, rfl⟩ := y
          have o1214 := o13.trans r.2
          refine ⟨rfl, yes_te ⟨_, rfl, _, rfl, _, rfl, a, .ref t, x, sg, R, k, rfl, r.1, Dp.same (off_del o1214) hdm12, hM.nl (NL.off hp12 o1214), fun H16 hp16 o16 => ?_⟩⟩
          refine c _ _ ⟨hp16, r.2.trans o16⟩ (o16 _ _ hD naD9.symm) ?_
          rw [ha, List.replicate_succ']
        · subst ha
          refine ⟨D9, List.replicate _ true, rfl, .inl (.inl (by rw [hD, List.map_replicate])), ?_⟩
          rw [all_id_rep]
          exact q _ r.1 ((o012.trans o13).trans r.2)
end
end Lw
namespace Lw
open PySem PySem.Spec PyProof.Rows L3
open L2 hiding del del_same del_ne
section
variable {w : World} {K : PySem.W.Frag} {mg : Str → Option Value} {base : Heap}
/-! ### _law_right -/
theorem ok_law_right (T : All K mg) : FnOkG PW w K mg base CX0 12 T.f_law_right T.d_law_right ["_law_pot_here"] spPotTrue := by
  refine okG T.law_right.F sc_law_right (fun vs H Q E h => ?_) (fun cdv A outer s H vs Q E hr hG h => ?_)
  · obtain ⟨a, rfl, _⟩ := h
    rfl
  · obtain ⟨a, rfl, hp, q⟩ := h
    refine ⟨_, pss_cons (ps_if (pt_not (pt_val (pe_callG (ok_law_great_right T) (hr.mono (by decide)) hG (by rfl) T.law_great_right.g T.law_great_right.F.kp T.law_great_right.b pass0 (pa_cons (pv 0) pa_nil)))) (pss_one ps_never) pss_nil)
      (pss_cons (ps_for PassesOwn.never rfl (pi_range1 rfl T.b_range (pa_cons pe_int pa_nil)) (pg_name (i := 1) sc_law_right.nd rfl (by first | exact Or.inl rfl | exact Or.inr rfl))
        (pss_cons (ps_set (i := 2) sc_law_right.nd rfl (by first | exact Or.inl rfl | exact Or.inr rfl) (pe_call (ok_law_model T) (hr.mono (by decide)) (by rfl) T.law_model.g T.law_model.F.kp T.law_model.b .nil pass0 (pa_cons (pv 0) (pa_cons (pe_call (ok_law_signs T) (hr.mono (by decide)) (by rfl) T.law_signs.g T.law_signs.F.kp T.law_signs.b .nil pass0 (pa_cons (pv 0) pa_nil)) (pa_cons pe_int pa_nil)))))
      (pss_cons (ps_asg (pe_tup (pa_cons (pe_call (ok_law_machine T) (hr.mono (by decide)) (by rfl) T.law_machine.g T.law_machine.F.kp T.law_machine.b .nil pass0 (pa_cons (pv 2) pa_nil)) (pa_cons (pe_callB (call_reprD hr hG) (by rfl) T.b_repr (by decide +kernel) (pa_cons (pv 2) pa_nil)) pa_nil))) (pg_tup rfl (pgs_cons (pg_name (i := 3) sc_law_right.nd rfl (by first | exact Or.inl rfl | exact Or.inr rfl)) (pgs_cons (pg_name (i := 4) sc_law_right.nd rfl (by first | exact Or.inl rfl | exact Or.inr rfl)) pgs_nil))))
      (pss_cons (ps_if (PW.pt (pw_or (pt_not (pt_val (pe_callG (ok_law_steps_right T) (hr.mono (by decide)) hG (by rfl) T.law_steps_right.g T.law_steps_right.F.kp T.law_steps_right.b pass0 (pa_cons (pv 2) (pa_cons (pv 3) pa_nil))))) (pw_or1 (pt_not (pt_val (pe_callB (cr_all rfl) (by rfl) T.b_all PyProof.Rows.boot_all (pa_cons (pe_lc (own := [("_law_again", 5)]) (g := gName 5) (tt := tYes) rfl sc_law_right.nd (pi_range1 rfl T.b_range (pa_cons pe_int pa_nil))
          (blkOk_by (own := [("_law_again", 5)]) (N := ["_law_pot_here", "_law_turn", "_law_model_here", "_law_net", "_law_shown", "_law_again"]) (sc := defScope s_law_right) (by decide +kernel))
          (fun _ _ _ _ _ => pg_name (i := 5) sc_law_right.nd rfl (by first | exact Or.inl rfl | exact Or.inr rfl)) (fun _ _ _ _ _ => pts_nil)
          (fun _ _ _ _ _ => (pe_callG (ok_law_spots_right T) (hr.mono (by decide)) hG (by rfl) T.law_spots_right.g T.law_spots_right.F.kp T.law_spots_right.b pass0 (pa_cons (pv 0) (pa_cons (pv 2) (pa_cons (pv 3) pa_nil)))))) pa_nil))))))) (pss_one ps_never) pss_nil)
      (pss_one (ps_if (PW.pt (pw_or (pt_cmpR (op_neOwn (FnOkG.of (ok_Machine_eq T)) (hr.mono (by decide)) hG T.Machine_eq.b T.Machine_eq.m (mro_obj T.mk_Machine) T.ne_Machine) (pv 3) (pe_call (ok_law_machine T) (hr.mono (by decide)) (by rfl) T.law_machine.g T.law_machine.F.kp T.law_machine.b .nil pass0 (pa_cons (pv 2) pa_nil)) (nomark _)) (pw_or1 (pt_cmpR op_ne (pe_callB (call_reprD hr hG) (by rfl) T.b_repr (by decide +kernel) (pa_cons (pv 2) pa_nil)) (pv 4) (nomark _))))) (pss_one ps_never) pss_nil))))))
      (pss_one (ps_ret pe_bl))), ?_⟩
    refine ⟨_, rfl, a, rfl, hp, fun H1 hp1 ho1 => ⟨true, rfl, iteF ?_⟩⟩
    refine ⟨_, rfl, by decide, by decide, ?_⟩
    refine for_it walk_range (fun i σ H' => ∃ s1 s2 s3 s4, σ = [some (.ref a), s1, s2, s3, s4, none] ∧ Pot H' a ∧ Off a H1 H')
      ⟨_, _, _, _, rfl, hp1, Off.refl _ _⟩ (fun _ _ _ _ _ => trivial) (fun e x0 σ H2 H3 he pp y => ?_) (fun σ H2 pp => ?_)
    · obtain ⟨s1, s2, s3, s4, rfl, hp2, o12⟩ := pp
      obtain ⟨rfl, rfl⟩ := y
      refine ⟨_, rfl, _, rfl, a, rfl, hp2, fun H4 sg hl hp4 o34 => ?_⟩
      refine ⟨a, sg, 6, rfl, hp4, hl, by decide, by decide, fun H5 t R k hGd hR6 hp5 o45 hdm => ?_⟩
      have o15 := (o12.trans o34).trans o45
      have hd := Dp.same (del_same _ _) hdm
      refine ⟨_, rfl, sg, .ref t, R, k, rfl, hl, hd, hGd, fun H6 x s6 nx hM => ?_⟩
      have wM : Wt (dMo sg R k) ((3760 + 1) * 3) (2 + 1) := Wt.tuple (fun d hd => by
        simp only [List.mem_cons, List.not_mem_nil, or_false] at hd
        rcases hd with rfl | rfl | rfl
        · exact (wt_sg hl).mono (by decide) (by decide)
        · exact (wt_dLR hGd.toSht hl.few).mono (by decide) (by decide)
        · exact (wt_kinds hGd.toSht).mono (by decide) (by decide)) (by simp)
      obtain ⟨w1, w2, w3⟩ := wM.shw (by decide) (by decide)
      refine ⟨_, rfl, _, _, rfl, Dp.same s6 hd, w1, w2, w3, ?_⟩
      refine ⟨by show 2 ≤ sizeLine; decide, fun tt ntt => ?_⟩
      refine ⟨tt, _, rfl, .inl (.inl upd_same), rfl, _, _, rfl, _, _, rfl, rfl, ?_⟩
      have s67 := same_upd (o := .tup [.ref x, .str (dMo sg R k).shown]) ntt
      generalize upd H6 tt (.tup [.ref x, .str (dMo sg R k).shown]) = H7 at *
      have s57 := s6.trans s67
      refine ⟨_, rfl, _, rfl, .ref t, x, sg, R, k, rfl, Dp.same s57 hd, hM.same s67, fun H8 s78 => ⟨true, rfl, iteF ?_⟩⟩
      have s58 := s57.trans s78
      have hp8 := hp5.same s58
      have hdm8 := Dp.same (off_del (Off.of s58)) hdm
      have hM8 := hM.same (s67.trans s78)
      refine ⟨_, rfl, by decide, by decide, fun D9 nD9 => ?_⟩
      have naD9 : a ≠ D9 := hp8.ne nD9
      refine lc_gen2 walk_range (fun H' => Pot H' a ∧ Off a H8 H') (fun i acc => acc = List.replicate i (.bl true)) (by decide) (fun i acc e => by rw [e]; simp) rfl
        ⟨hp8.up naD9, Off.of (same_upd nD9)⟩ (fun H' acc acc' hD r => ⟨r.1.up naD9, r.2.up nD9⟩) (fun _ _ => trivial) (fun i x0 H14 H15 acc C N hi r hD ha y c n => ?_) (fun H14 zz r hD ha => ?_)
      · obtain ⟨rfl, rfl⟩ := y
        refine ⟨rfl, yes_te ⟨_, rfl, _, rfl, _, rfl, a, .ref t, x, sg, R, k, rfl, r.1, Dp.same (off_del r.2) hdm8, hM8.nl (NL.off hp8 r.2), fun H16 hp16 o16 => ?_⟩⟩
        refine c _ _ ⟨hp16, r.2.trans o16⟩ (o16 _ _ hD naD9.symm) ?_
        rw [ha, List.replicate_succ']
      · subst ha
        refine ⟨D9, List.replicate _ true, rfl, .inl (.inl (by rw [hD, List.map_replicate])), ?_⟩
        rw [all_id_rep]
        refine ⟨true, rfl, iteF ?_⟩
        have hdm14 := Dp.same (off_del r.2) hdm8
        have hd14 := Dp.same (del_same _ _) hdm14
        have hM14 := hM8.nl (NL.off hp8 r.2)
        refine ⟨_, rfl, _, rfl, sg, .ref t, R, k, rfl, hl, hd14, hGd, fun H15 x2 s15 nx2 hM2 => ?_⟩
        refine neM T (hM14.same s15) hM2 ?_
        rw [sameM_self]
        refine ⟨false, rfl, iteF ?_⟩
        refine ⟨_, rfl, _, _, rfl, Dp.same s15 hd14, w1, w2, w3, ?_⟩
        refine ⟨_, rfl, rfl, _, rfl, ite_f (by simp) ?_⟩
        exact ⟨_, _, _, _, rfl, r.1.same s15, ((o15.trans (Off.of s58)).trans r.2).trans (Off.of s15)⟩
    · obtain ⟨s1, s2, s3, s4, rfl, hp2, o12⟩ := pp
      exact q _ hp2 (ho1.trans o12)
/-! ### law -/
theorem sq_off {a p : Addr} {xs : List V} {H H3 H' : Hp} (h : SqL K H a xs) (n : H p = none) (s : Same H H3) (o : Off p H3 H') : SqL K H' a xs := by
  rcases h with (h | ⟨o', h⟩) | h
  · exact .inl (.inl (o _ _ (s _ _ h) (ne_of_none h n)))
  · exact .inl (.inr ⟨o', o _ _ (s _ _ h) (ne_of_none h n)⟩)
  · exact .inr h
def spLaw (K : PySem.W.Frag) : Sp := fun vs H Q _ => ∃ (a : Addr) (ns : List Int), vs = [.ref a] ∧ SqL K H a (ns.map V.int) ∧ ∀ H', Q (.bl true) H'
theorem ok_law (T : All K mg) : FnOkG PW w K mg base CX0 13 T.f_law T.d_law ["_law_script"] (spLaw K) := by
  refine okG T.law.F sc_law (fun vs H Q E h => ?_) (fun cdv A outer s H vs Q E hr hG h => ?_)
  · obtain ⟨a, ns, rfl, _⟩ := h
    rfl
  · obtain ⟨a, ns, rfl, hS, q⟩ := h
    refine ⟨_, pss_one (ps_ret (pe_callB (cr_all rfl) (by rfl) T.b_all PyProof.Rows.boot_all (pa_cons (pe_lc (own := [("_law_k", 1)]) (g := gName 1) (tt := tYes) rfl sc_law.nd (pi_range1 rfl T.b_range (pa_cons (pe_callB (call_max2 rfl) (by rfl) T.b_max PyProof.Rows.boot_max (pa_cons pe_int (pa_cons (pe_callB (call_min2 rfl) (by rfl) T.b_min PyProof.Rows.boot_min (pa_cons (pe_callB call_len_seq (by rfl) T.b_len PySem.boot_len (pa_cons (pv 0) pa_nil)) (pa_cons pe_int pa_nil))) pa_nil))) pa_nil))
          (blkOk_by (own := [("_law_k", 1)]) (N := ["_law_script", "_law_k"]) (sc := defScope s_law) (by decide +kernel))
          (fun _ _ _ _ _ => pg_name (i := 1) sc_law.nd rfl (by first | exact Or.inl rfl | exact Or.inr rfl)) (fun _ _ _ _ _ => pts_nil)
          (fun _ _ _ _ _ => (pe_callG (ok_law_right T) (hr.mono (by decide)) hG (by rfl) T.law_right.g T.law_right.F.kp T.law_right.b pass0 (pa_cons (pe_call (ok_law_pot T) (hr.mono (by decide)) (by rfl) T.law_pot.g T.law_pot.F.kp T.law_pot.b .nil pass0 (pa_cons (pv 0) (pa_cons (pv 1) pa_nil))) pa_nil)))) pa_nil))), ?_⟩
    refine ⟨_, rfl, a, _, rfl, .inl hS, _, _, rfl, _, _, rfl, ?_⟩
    refine ⟨_, rfl, ?_, ?_, fun D nD => ?_⟩
    · split <;> split <;> omega
    · split <;> split <;> omega
    have hn : ((if (if (3 : Int) < ((ns.map V.int).length : Int) then 3 else ((ns.map V.int).length : Int)) > 1 then (if (3 : Int) < ((ns.map V.int).length : Int) then 3 else ((ns.map V.int).length : Int)) else 1) : Int).toNat ≤ 3 := by
      split <;> split <;> omega
    have hAD : (∀ H', SqL K H' a (ns.map V.int)) ∨ a ≠ D := by
      rcases hS with (h | ⟨o', h⟩) | h
      · exact .inr (ne_of_none h nD)
      · exact .inr (ne_of_none h nD)
      · exact .inl fun H' => .inr h
    refine lc_gen2 walk_range (fun H' => SqL K H' a (ns.map V.int)) (fun i acc => acc = List.replicate i (.bl true)) ?_ (fun i acc e => by rw [e]; simp) rfl
      (sq_new hS nD) (fun H' acc acc' hD r => hAD.elim (fun h => h _) (fun n => sq_put r n)) (fun _ _ => trivial) (fun i x H7 H8 acc C N hi r hD ha y c n => ?_) (fun H7 xs r hD ha => ?_)
    · rw [sizeLine_eq]
      exact Nat.le_trans hn (by decide)
    · obtain ⟨rfl, rfl⟩ := y
      have hi4 : i < 3 := Nat.lt_of_lt_of_le hi hn
      refine ⟨rfl, yes_te ?_⟩
      refine ⟨_, rfl, _, rfl, a, ns, i, congrArg (fun z => [V.ref a, V.int z]) (Int.zero_add _), r, by omega, fun H9 p s9 n9 hp9 => ?_⟩
      refine ⟨p, rfl, hp9, fun H10 _ o10 => ?_⟩
      refine c _ _ (sq_off r n9 s9 o10) (o10 _ _ (s9 _ _ hD) (ne_of_none hD n9)) ?_
      rw [ha, List.replicate_succ']
    · subst ha
      refine ⟨D, List.replicate _ true, rfl, .inl (.inl (by rw [hD, List.map_replicate])), ?_⟩
      rw [all_id_rep]
      exact q _
theorem fin {w : World} {K : PySem.W.Frag} {mg mb : Str → Option Value} {fa fl a : Addr} {s₁ : Shared} {vs : List Value} {ns : List Int}
    (KX : K.In s₁.heap) (hns : s₁.heap.Ns mainGlobals mg) (hb : s₁.heap.Ns builtinsNs mb) (hbb : ∀ x : Str, x ≠ "__name__" → mb x = bootBuiltins x) (hlim : s₁.heap.NoLimit) (hg : s₁.gens = #[])
    (hbm : ∃ (bm : Addr) (ob : Obj), mg "__builtins__" = some (.ref bm) ∧ bm ≠ builtinsNs ∧ s₁.heap.get? bm = some ob ∧ ob.cls = .type "module" ∧ ob.dict = some builtinsNs ∧ ob.data = .plain)
    (ha : s₁.heap.get? a = some { cls := .type "list", data := .seq vs.toArray }) (hi : IntsAre vs ns) (hl : ns.length ≤ sizeLine) (hmg : mg "law" = some (.ref fa))
    (hall : ∃ T : All K mg, T.f_law = fl) :
    codeAny (model PW w) callerA (.call (.ref fa) ⟨[.ref a], []⟩) (fun r s' => r = .ok (.ret (.bool true)) ∧ OldK s₁.heap s'.heap ∧ s'.os = s₁.os ∧ AllBare s'.gens) s₁ := by
  obtain ⟨T, _⟩ := hall
  have e : T.f_law = fa := by
    have h := T.law.g
    rw [hmg] at h
    exact (Value.ref.inj (Option.some.inj h)).symm
  rw [← e]
  refine law_callG (cs := []) (k := 13) (sp := spLaw K) KX hns hb hbb hlim hg (fun p hp => nomatch hp) (fun p hp => nomatch hp) (fun p hp => nomatch hp) hbm ha hi hl ⟨rfl, by decide, by decide⟩ (fun base hK hM TB => ok_law T) T.law.b (fun H hH hS => ?_)
  exact ⟨a, ns, rfl, hS, fun H' => rfl⟩
end
end Lw
namespace Lw
open PySem PySem.Spec PyProof.Rows L2 L3
theorem all_mk {K : PySem.W.Frag} {h : Heap} {mg : Str → Option Value} (X : K.In h) (G : h.Ns mainGlobals mg)
    {f_is_integer : Addr} {oc_is_integer kV_is_integer dc_is_integer pm_is_integer cd_is_integer ct_is_integer : Value} {od_is_integer an_is_integer : Option Addr} {sl_is_integer : Array (Option Value)}
    (a_is_integer : PySem.W.nsIn K mainGlobals "is_integer" = some (some (.ref f_is_integer))) (l_is_integer : K.lookup f_is_integer = some ⟨oc_is_integer, od_is_integer, .func (PySem.W.fnOf "is_integer" "is_integer" (defArgs s_is_integer) (defBody s_is_integer) (defScope s_is_integer) .none kV_is_integer dc_is_integer pm_is_integer an_is_integer cd_is_integer ct_is_integer), sl_is_integer⟩) (e_is_integer : PySem.W.codeIn K cd_is_integer "is_integer" = true) (k_is_integer : PySem.W.keepIn K (.ref f_is_integer) = true)
    {f_is_count : Addr} {oc_is_count kV_is_count dc_is_count pm_is_count cd_is_count ct_is_count : Value} {od_is_count an_is_count : Option Addr} {sl_is_count : Array (Option Value)}
    (a_is_count : PySem.W.nsIn K mainGlobals "is_count" = some (some (.ref f_is_count))) (l_is_count : K.lookup f_is_count = some ⟨oc_is_count, od_is_count, .func (PySem.W.fnOf "is_count" "is_count" (defArgs s_is_count) (defBody s_is_count) (defScope s_is_count) .none kV_is_count dc_is_count pm_is_count an_is_count cd_is_count ct_is_count), sl_is_count⟩) (e_is_count : PySem.W.codeIn K cd_is_count "is_count" = true) (k_is_count : PySem.W.keepIn K (.ref f_is_count) = true)
    {f_is_list : Addr} {oc_is_list kV_is_list dc_is_list pm_is_list cd_is_list ct_is_list : Value} {od_is_list an_is_list : Option Addr} {sl_is_list : Array (Option Value)}
    (a_is_list : PySem.W.nsIn K mainGlobals "is_list" = some (some (.ref f_is_list))) (l_is_list : K.lookup f_is_list = some ⟨oc_is_list, od_is_list, .func (PySem.W.fnOf "is_list" "is_list" (defArgs s_is_list) (defBody s_is_list) (defScope s_is_list) .none kV_is_list dc_is_list pm_is_list an_is_list cd_is_list ct_is_list), sl_is_list⟩) (e_is_list : PySem.W.codeIn K cd_is_list "is_list" = true) (k_is_list : PySem.W.keepIn K (.ref f_is_list) = true)
    {f_is_text : Addr} {oc_is_text kV_is_text dc_is_text pm_is_text cd_is_text ct_is_text : Value} {od_is_text an_is_text : Option Addr} {sl_is_text : Array (Option Value)}
    (a_is_text : PySem.W.nsIn K mainGlobals "is_text" = some (some (.ref f_is_text))) (l_is_text : K.lookup f_is_text = some ⟨oc_is_text, od_is_text, .func (PySem.W.fnOf "is_text" "is_text" (defArgs s_is_text) (defBody s_is_text) (defScope s_is_text) .none kV_is_text dc_is_text pm_is_text an_is_text cd_is_text ct_is_text), sl_is_text⟩) (e_is_text : PySem.W.codeIn K cd_is_text "is_text" = true) (k_is_text : PySem.W.keepIn K (.ref f_is_text) = true)
    {f_are_letters : Addr} {oc_are_letters kV_are_letters dc_are_letters pm_are_letters cd_are_letters ct_are_letters : Value} {od_are_letters an_are_letters : Option Addr} {sl_are_letters : Array (Option Value)}
    (a_are_letters : PySem.W.nsIn K mainGlobals "are_letters" = some (some (.ref f_are_letters))) (l_are_letters : K.lookup f_are_letters = some ⟨oc_are_letters, od_are_letters, .func (PySem.W.fnOf "are_letters" "are_letters" (defArgs s_are_letters) (defBody s_are_letters) (defScope s_are_letters) .none kV_are_letters dc_are_letters pm_are_letters an_are_letters cd_are_letters ct_are_letters), sl_are_letters⟩) (e_are_letters : PySem.W.codeIn K cd_are_letters "are_letters" = true) (k_are_letters : PySem.W.keepIn K (.ref f_are_letters) = true)
    {f_is_text_over : Addr} {oc_is_text_over kV_is_text_over dc_is_text_over pm_is_text_over cd_is_text_over ct_is_text_over : Value} {od_is_text_over an_is_text_over : Option Addr} {sl_is_text_over : Array (Option Value)}
    (a_is_text_over : PySem.W.nsIn K mainGlobals "is_text_over" = some (some (.ref f_is_text_over))) (l_is_text_over : K.lookup f_is_text_over = some ⟨oc_is_text_over, od_is_text_over, .func (PySem.W.fnOf "is_text_over" "is_text_over" (defArgs s_is_text_over) (defBody s_is_text_over) (defScope s_is_text_over) .none kV_is_text_over dc_is_text_over pm_is_text_over an_is_text_over cd_is_text_over ct_is_text_over), sl_is_text_over⟩) (e_is_text_over : PySem.W.codeIn K cd_is_text_over "is_text_over" = true) (k_is_text_over : PySem.W.keepIn K (.ref f_is_text_over) = true)
    {f_want_few : Addr} {oc_want_few kV_want_few dc_want_few pm_want_few cd_want_few ct_want_few : Value} {od_want_few an_want_few : Option Addr} {sl_want_few : Array (Option Value)}
    (a_want_few : PySem.W.nsIn K mainGlobals "want_few" = some (some (.ref f_want_few))) (l_want_few : K.lookup f_want_few = some ⟨oc_want_few, od_want_few, .func (PySem.W.fnOf "want_few" "want_few" (defArgs s_want_few) (defBody s_want_few) (defScope s_want_few) .none kV_want_few dc_want_few pm_want_few an_want_few cd_want_few ct_want_few), sl_want_few⟩) (e_want_few : PySem.W.codeIn K cd_want_few "want_few" = true) (k_want_few : PySem.W.keepIn K (.ref f_want_few) = true)
    {f_is_row : Addr} {oc_is_row kV_is_row dc_is_row pm_is_row cd_is_row ct_is_row : Value} {od_is_row an_is_row : Option Addr} {sl_is_row : Array (Option Value)}
    (a_is_row : PySem.W.nsIn K mainGlobals "is_row" = some (some (.ref f_is_row))) (l_is_row : K.lookup f_is_row = some ⟨oc_is_row, od_is_row, .func (PySem.W.fnOf "is_row" "is_row" (defArgs s_is_row) (defBody s_is_row) (defScope s_is_row) .none kV_is_row dc_is_row pm_is_row an_is_row cd_is_row ct_is_row), sl_is_row⟩) (e_is_row : PySem.W.codeIn K cd_is_row "is_row" = true) (k_is_row : PySem.W.keepIn K (.ref f_is_row) = true)
    {f_want_machine : Addr} {oc_want_machine kV_want_machine dc_want_machine pm_want_machine cd_want_machine ct_want_machine : Value} {od_want_machine an_want_machine : Option Addr} {sl_want_machine : Array (Option Value)}
    (a_want_machine : PySem.W.nsIn K mainGlobals "want_machine" = some (some (.ref f_want_machine))) (l_want_machine : K.lookup f_want_machine = some ⟨oc_want_machine, od_want_machine, .func (PySem.W.fnOf "want_machine" "want_machine" (defArgs s_want_machine) (defBody s_want_machine) (defScope s_want_machine) .none kV_want_machine dc_want_machine pm_want_machine an_want_machine cd_want_machine ct_want_machine), sl_want_machine⟩) (e_want_machine : PySem.W.codeIn K cd_want_machine "want_machine" = true) (k_want_machine : PySem.W.keepIn K (.ref f_want_machine) = true)
    {f_met_from : Addr} {oc_met_from kV_met_from dc_met_from pm_met_from cd_met_from ct_met_from : Value} {od_met_from an_met_from : Option Addr} {sl_met_from : Array (Option Value)}
    (a_met_from : PySem.W.nsIn K mainGlobals "met_from" = some (some (.ref f_met_from))) (l_met_from : K.lookup f_met_from = some ⟨oc_met_from, od_met_from, .func (PySem.W.fnOf "met_from" "met_from" (defArgs s_met_from) (defBody s_met_from) (defScope s_met_from) .none kV_met_from dc_met_from pm_met_from an_met_from cd_met_from ct_met_from), sl_met_from⟩) (e_met_from : PySem.W.codeIn K cd_met_from "met_from" = true) (k_met_from : PySem.W.keepIn K (.ref f_met_from) = true)
    {f_want_text : Addr} {oc_want_text kV_want_text dc_want_text pm_want_text cd_want_text ct_want_text : Value} {od_want_text an_want_text : Option Addr} {sl_want_text : Array (Option Value)}
    (a_want_text : PySem.W.nsIn K mainGlobals "want_text" = some (some (.ref f_want_text))) (l_want_text : K.lookup f_want_text = some ⟨oc_want_text, od_want_text, .func (PySem.W.fnOf "want_text" "want_text" (defArgs s_want_text) (defBody s_want_text) (defScope s_want_text) .none kV_want_text dc_want_text pm_want_text an_want_text cd_want_text ct_want_text), sl_want_text⟩) (e_want_text : PySem.W.codeIn K cd_want_text "want_text" = true) (k_want_text : PySem.W.keepIn K (.ref f_want_text) = true)
    {f_want_letter : Addr} {oc_want_letter kV_want_letter dc_want_letter pm_want_letter cd_want_letter ct_want_letter : Value} {od_want_letter an_want_letter : Option Addr} {sl_want_letter : Array (Option Value)}
    (a_want_letter : PySem.W.nsIn K mainGlobals "want_letter" = some (some (.ref f_want_letter))) (l_want_letter : K.lookup f_want_letter = some ⟨oc_want_letter, od_want_letter, .func (PySem.W.fnOf "want_letter" "want_letter" (defArgs s_want_letter) (defBody s_want_letter) (defScope s_want_letter) .none kV_want_letter dc_want_letter pm_want_letter an_want_letter cd_want_letter ct_want_letter), sl_want_letter⟩) (e_want_letter : PySem.W.codeIn K cd_want_letter "want_letter" = true) (k_want_letter : PySem.W.keepIn K (.ref f_want_letter) = true)
    {f_want_place : Addr} {oc_want_place kV_want_place dc_want_place pm_want_place cd_want_place ct_want_place : Value} {od_want_place an_want_place : Option Addr} {sl_want_place : Array (Option Value)}
    (a_want_place : PySem.W.nsIn K mainGlobals "want_place" = some (some (.ref f_want_place))) (l_want_place : K.lookup f_want_place = some ⟨oc_want_place, od_want_place, .func (PySem.W.fnOf "want_place" "want_place" (defArgs s_want_place) (defBody s_want_place) (defScope s_want_place) .none kV_want_place dc_want_place pm_want_place an_want_place cd_want_place ct_want_place), sl_want_place⟩) (e_want_place : PySem.W.codeIn K cd_want_place "want_place" = true) (k_want_place : PySem.W.keepIn K (.ref f_want_place) = true)
    {f_led : Addr} {oc_led kV_led dc_led pm_led cd_led ct_led : Value} {od_led an_led : Option Addr} {sl_led : Array (Option Value)}
    (a_led : PySem.W.nsIn K mainGlobals "led" = some (some (.ref f_led))) (l_led : K.lookup f_led = some ⟨oc_led, od_led, .func (PySem.W.fnOf "led" "led" (defArgs s_led) (defBody s_led) (defScope s_led) .none kV_led dc_led pm_led an_led cd_led ct_led), sl_led⟩) (e_led : PySem.W.codeIn K cd_led "led" = true) (k_led : PySem.W.keepIn K (.ref f_led) = true)
    {f_is_taken : Addr} {oc_is_taken kV_is_taken dc_is_taken pm_is_taken cd_is_taken ct_is_taken : Value} {od_is_taken an_is_taken : Option Addr} {sl_is_taken : Array (Option Value)}
    (a_is_taken : PySem.W.nsIn K mainGlobals "is_taken" = some (some (.ref f_is_taken))) (l_is_taken : K.lookup f_is_taken = some ⟨oc_is_taken, od_is_taken, .func (PySem.W.fnOf "is_taken" "is_taken" (defArgs s_is_taken) (defBody s_is_taken) (defScope s_is_taken) .none kV_is_taken dc_is_taken pm_is_taken an_is_taken cd_is_taken ct_is_taken), sl_is_taken⟩) (e_is_taken : PySem.W.codeIn K cd_is_taken "is_taken" = true) (k_is_taken : PySem.W.keepIn K (.ref f_is_taken) = true)
    {f_contrary : Addr} {oc_contrary kV_contrary dc_contrary pm_contrary cd_contrary ct_contrary : Value} {od_contrary an_contrary : Option Addr} {sl_contrary : Array (Option Value)}
    (a_contrary : PySem.W.nsIn K mainGlobals "contrary" = some (some (.ref f_contrary))) (l_contrary : K.lookup f_contrary = some ⟨oc_contrary, od_contrary, .func (PySem.W.fnOf "contrary" "contrary" (defArgs s_contrary) (defBody s_contrary) (defScope s_contrary) .none kV_contrary dc_contrary pm_contrary an_contrary cd_contrary ct_contrary), sl_contrary⟩) (e_contrary : PySem.W.codeIn K cd_contrary "contrary" = true) (k_contrary : PySem.W.keepIn K (.ref f_contrary) = true)
    {f_lists_of : Addr} {oc_lists_of kV_lists_of dc_lists_of pm_lists_of cd_lists_of ct_lists_of : Value} {od_lists_of an_lists_of : Option Addr} {sl_lists_of : Array (Option Value)}
    (a_lists_of : PySem.W.nsIn K mainGlobals "lists_of" = some (some (.ref f_lists_of))) (l_lists_of : K.lookup f_lists_of = some ⟨oc_lists_of, od_lists_of, .func (PySem.W.fnOf "lists_of" "lists_of" (defArgs s_lists_of) (defBody s_lists_of) (defScope s_lists_of) .none kV_lists_of dc_lists_of pm_lists_of an_lists_of cd_lists_of ct_lists_of), sl_lists_of⟩) (e_lists_of : PySem.W.codeIn K cd_lists_of "lists_of" = true) (k_lists_of : PySem.W.keepIn K (.ref f_lists_of) = true)
    {f_want_listed : Addr} {oc_want_listed kV_want_listed dc_want_listed pm_want_listed cd_want_listed ct_want_listed : Value} {od_want_listed an_want_listed : Option Addr} {sl_want_listed : Array (Option Value)}
    (a_want_listed : PySem.W.nsIn K mainGlobals "want_listed" = some (some (.ref f_want_listed))) (l_want_listed : K.lookup f_want_listed = some ⟨oc_want_listed, od_want_listed, .func (PySem.W.fnOf "want_listed" "want_listed" (defArgs s_want_listed) (defBody s_want_listed) (defScope s_want_listed) .none kV_want_listed dc_want_listed pm_want_listed an_want_listed cd_want_listed ct_want_listed), sl_want_listed⟩) (e_want_listed : PySem.W.codeIn K cd_want_listed "want_listed" = true) (k_want_listed : PySem.W.keepIn K (.ref f_want_listed) = true)
    {f_turned_by : Addr} {oc_turned_by kV_turned_by dc_turned_by pm_turned_by cd_turned_by ct_turned_by : Value} {od_turned_by an_turned_by : Option Addr} {sl_turned_by : Array (Option Value)}
    (a_turned_by : PySem.W.nsIn K mainGlobals "turned_by" = some (some (.ref f_turned_by))) (l_turned_by : K.lookup f_turned_by = some ⟨oc_turned_by, od_turned_by, .func (PySem.W.fnOf "turned_by" "turned_by" (defArgs s_turned_by) (defBody s_turned_by) (defScope s_turned_by) .none kV_turned_by dc_turned_by pm_turned_by an_turned_by cd_turned_by ct_turned_by), sl_turned_by⟩) (e_turned_by : PySem.W.codeIn K cd_turned_by "turned_by" = true) (k_turned_by : PySem.W.keepIn K (.ref f_turned_by) = true)
    {f_turned : Addr} {oc_turned kV_turned dc_turned pm_turned cd_turned ct_turned : Value} {od_turned an_turned : Option Addr} {sl_turned : Array (Option Value)}
    (a_turned : PySem.W.nsIn K mainGlobals "turned" = some (some (.ref f_turned))) (l_turned : K.lookup f_turned = some ⟨oc_turned, od_turned, .func (PySem.W.fnOf "turned" "turned" (defArgs s_turned) (defBody s_turned) (defScope s_turned) .none kV_turned dc_turned pm_turned an_turned cd_turned ct_turned), sl_turned⟩) (e_turned : PySem.W.codeIn K cd_turned "turned" = true) (k_turned : PySem.W.keepIn K (.ref f_turned) = true)
    {f_redirected : Addr} {oc_redirected kV_redirected dc_redirected pm_redirected cd_redirected ct_redirected : Value} {od_redirected an_redirected : Option Addr} {sl_redirected : Array (Option Value)}
    (a_redirected : PySem.W.nsIn K mainGlobals "redirected" = some (some (.ref f_redirected))) (l_redirected : K.lookup f_redirected = some ⟨oc_redirected, od_redirected, .func (PySem.W.fnOf "redirected" "redirected" (defArgs s_redirected) (defBody s_redirected) (defScope s_redirected) .none kV_redirected dc_redirected pm_redirected an_redirected cd_redirected ct_redirected), sl_redirected⟩) (e_redirected : PySem.W.codeIn K cd_redirected "redirected" = true) (k_redirected : PySem.W.keepIn K (.ref f_redirected) = true)
    {f_law_pot : Addr} {oc_law_pot kV_law_pot dc_law_pot pm_law_pot cd_law_pot ct_law_pot : Value} {od_law_pot an_law_pot : Option Addr} {sl_law_pot : Array (Option Value)}
    (a_law_pot : PySem.W.nsIn K mainGlobals "_law_pot" = some (some (.ref f_law_pot))) (l_law_pot : K.lookup f_law_pot = some ⟨oc_law_pot, od_law_pot, .func (PySem.W.fnOf "_law_pot" "_law_pot" (defArgs s_law_pot) (defBody s_law_pot) (defScope s_law_pot) .none kV_law_pot dc_law_pot pm_law_pot an_law_pot cd_law_pot ct_law_pot), sl_law_pot⟩) (e_law_pot : PySem.W.codeIn K cd_law_pot "_law_pot" = true) (k_law_pot : PySem.W.keepIn K (.ref f_law_pot) = true)
    {f_law_draw : Addr} {oc_law_draw kV_law_draw dc_law_draw pm_law_draw cd_law_draw ct_law_draw : Value} {od_law_draw an_law_draw : Option Addr} {sl_law_draw : Array (Option Value)}
    (a_law_draw : PySem.W.nsIn K mainGlobals "_law_draw" = some (some (.ref f_law_draw))) (l_law_draw : K.lookup f_law_draw = some ⟨oc_law_draw, od_law_draw, .func (PySem.W.fnOf "_law_draw" "_law_draw" (defArgs s_law_draw) (defBody s_law_draw) (defScope s_law_draw) .none kV_law_draw dc_law_draw pm_law_draw an_law_draw cd_law_draw ct_law_draw), sl_law_draw⟩) (e_law_draw : PySem.W.codeIn K cd_law_draw "_law_draw" = true) (k_law_draw : PySem.W.keepIn K (.ref f_law_draw) = true)
    {f_law_pick : Addr} {oc_law_pick kV_law_pick dc_law_pick pm_law_pick cd_law_pick ct_law_pick : Value} {od_law_pick an_law_pick : Option Addr} {sl_law_pick : Array (Option Value)}
    (a_law_pick : PySem.W.nsIn K mainGlobals "_law_pick" = some (some (.ref f_law_pick))) (l_law_pick : K.lookup f_law_pick = some ⟨oc_law_pick, od_law_pick, .func (PySem.W.fnOf "_law_pick" "_law_pick" (defArgs s_law_pick) (defBody s_law_pick) (defScope s_law_pick) .none kV_law_pick dc_law_pick pm_law_pick an_law_pick cd_law_pick ct_law_pick), sl_law_pick⟩) (e_law_pick : PySem.W.codeIn K cd_law_pick "_law_pick" = true) (k_law_pick : PySem.W.keepIn K (.ref f_law_pick) = true)
    {f_law_met : Addr} {oc_law_met kV_law_met dc_law_met pm_law_met cd_law_met ct_law_met : Value} {od_law_met an_law_met : Option Addr} {sl_law_met : Array (Option Value)}
    (a_law_met : PySem.W.nsIn K mainGlobals "_law_met" = some (some (.ref f_law_met))) (l_law_met : K.lookup f_law_met = some ⟨oc_law_met, od_law_met, .func (PySem.W.fnOf "_law_met" "_law_met" (defArgs s_law_met) (defBody s_law_met) (defScope s_law_met) .none kV_law_met dc_law_met pm_law_met an_law_met cd_law_met ct_law_met), sl_law_met⟩) (e_law_met : PySem.W.codeIn K cd_law_met "_law_met" = true) (k_law_met : PySem.W.keepIn K (.ref f_law_met) = true)
    {f_law_turned : Addr} {oc_law_turned kV_law_turned dc_law_turned pm_law_turned cd_law_turned ct_law_turned : Value} {od_law_turned an_law_turned : Option Addr} {sl_law_turned : Array (Option Value)}
    (a_law_turned : PySem.W.nsIn K mainGlobals "_law_turned" = some (some (.ref f_law_turned))) (l_law_turned : K.lookup f_law_turned = some ⟨oc_law_turned, od_law_turned, .func (PySem.W.fnOf "_law_turned" "_law_turned" (defArgs s_law_turned) (defBody s_law_turned) (defScope s_law_turned) .none kV_law_turned dc_law_turned pm_law_turned an_law_turned cd_law_turned ct_law_turned), sl_law_turned⟩) (e_law_turned : PySem.W.codeIn K cd_law_turned "_law_turned" = true) (k_law_turned : PySem.W.keepIn K (.ref f_law_turned) = true)
    {f_law_rows : Addr} {oc_law_rows kV_law_rows dc_law_rows pm_law_rows cd_law_rows ct_law_rows : Value} {od_law_rows an_law_rows : Option Addr} {sl_law_rows : Array (Option Value)}
    (a_law_rows : PySem.W.nsIn K mainGlobals "_law_rows" = some (some (.ref f_law_rows))) (l_law_rows : K.lookup f_law_rows = some ⟨oc_law_rows, od_law_rows, .func (PySem.W.fnOf "_law_rows" "_law_rows" (defArgs s_law_rows) (defBody s_law_rows) (defScope s_law_rows) .none kV_law_rows dc_law_rows pm_law_rows an_law_rows cd_law_rows ct_law_rows), sl_law_rows⟩) (e_law_rows : PySem.W.codeIn K cd_law_rows "_law_rows" = true) (k_law_rows : PySem.W.keepIn K (.ref f_law_rows) = true)
    {f_law_model : Addr} {oc_law_model kV_law_model dc_law_model pm_law_model cd_law_model ct_law_model : Value} {od_law_model an_law_model : Option Addr} {sl_law_model : Array (Option Value)}
    (a_law_model : PySem.W.nsIn K mainGlobals "_law_model" = some (some (.ref f_law_model))) (l_law_model : K.lookup f_law_model = some ⟨oc_law_model, od_law_model, .func (PySem.W.fnOf "_law_model" "_law_model" (defArgs s_law_model) (defBody s_law_model) (defScope s_law_model) .none kV_law_model dc_law_model pm_law_model an_law_model cd_law_model ct_law_model), sl_law_model⟩) (e_law_model : PySem.W.codeIn K cd_law_model "_law_model" = true) (k_law_model : PySem.W.keepIn K (.ref f_law_model) = true)
    {f_law_machine : Addr} {oc_law_machine kV_law_machine dc_law_machine pm_law_machine cd_law_machine ct_law_machine : Value} {od_law_machine an_law_machine : Option Addr} {sl_law_machine : Array (Option Value)}
    (a_law_machine : PySem.W.nsIn K mainGlobals "_law_machine" = some (some (.ref f_law_machine))) (l_law_machine : K.lookup f_law_machine = some ⟨oc_law_machine, od_law_machine, .func (PySem.W.fnOf "_law_machine" "_law_machine" (defArgs s_law_machine) (defBody s_law_machine) (defScope s_law_machine) .none kV_law_machine dc_law_machine pm_law_machine an_law_machine cd_law_machine ct_law_machine), sl_law_machine⟩) (e_law_machine : PySem.W.codeIn K cd_law_machine "_law_machine" = true) (k_law_machine : PySem.W.keepIn K (.ref f_law_machine) = true)
    {f_law_signs : Addr} {oc_law_signs kV_law_signs dc_law_signs pm_law_signs cd_law_signs ct_law_signs : Value} {od_law_signs an_law_signs : Option Addr} {sl_law_signs : Array (Option Value)}
    (a_law_signs : PySem.W.nsIn K mainGlobals "_law_signs" = some (some (.ref f_law_signs))) (l_law_signs : K.lookup f_law_signs = some ⟨oc_law_signs, od_law_signs, .func (PySem.W.fnOf "_law_signs" "_law_signs" (defArgs s_law_signs) (defBody s_law_signs) (defScope s_law_signs) .none kV_law_signs dc_law_signs pm_law_signs an_law_signs cd_law_signs ct_law_signs), sl_law_signs⟩) (e_law_signs : PySem.W.codeIn K cd_law_signs "_law_signs" = true) (k_law_signs : PySem.W.keepIn K (.ref f_law_signs) = true)
    {f_law_takes : Addr} {oc_law_takes kV_law_takes dc_law_takes pm_law_takes cd_law_takes ct_law_takes : Value} {od_law_takes an_law_takes : Option Addr} {sl_law_takes : Array (Option Value)}
    (a_law_takes : PySem.W.nsIn K mainGlobals "_law_takes" = some (some (.ref f_law_takes))) (l_law_takes : K.lookup f_law_takes = some ⟨oc_law_takes, od_law_takes, .func (PySem.W.fnOf "_law_takes" "_law_takes" (defArgs s_law_takes) (defBody s_law_takes) (defScope s_law_takes) .none kV_law_takes dc_law_takes pm_law_takes an_law_takes cd_law_takes ct_law_takes), sl_law_takes⟩) (e_law_takes : PySem.W.codeIn K cd_law_takes "_law_takes" = true) (k_law_takes : PySem.W.keepIn K (.ref f_law_takes) = true)
    {f_law_words : Addr} {oc_law_words kV_law_words dc_law_words pm_law_words cd_law_words ct_law_words : Value} {od_law_words an_law_words : Option Addr} {sl_law_words : Array (Option Value)}
    (a_law_words : PySem.W.nsIn K mainGlobals "_law_words" = some (some (.ref f_law_words))) (l_law_words : K.lookup f_law_words = some ⟨oc_law_words, od_law_words, .func (PySem.W.fnOf "_law_words" "_law_words" (defArgs s_law_words) (defBody s_law_words) (defScope s_law_words) .none kV_law_words dc_law_words pm_law_words an_law_words cd_law_words ct_law_words), sl_law_words⟩) (e_law_words : PySem.W.codeIn K cd_law_words "_law_words" = true) (k_law_words : PySem.W.keepIn K (.ref f_law_words) = true)
    {f_law_mixed : Addr} {oc_law_mixed kV_law_mixed dc_law_mixed pm_law_mixed cd_law_mixed ct_law_mixed : Value} {od_law_mixed an_law_mixed : Option Addr} {sl_law_mixed : Array (Option Value)}
    (a_law_mixed : PySem.W.nsIn K mainGlobals "_law_mixed" = some (some (.ref f_law_mixed))) (l_law_mixed : K.lookup f_law_mixed = some ⟨oc_law_mixed, od_law_mixed, .func (PySem.W.fnOf "_law_mixed" "_law_mixed" (defArgs s_law_mixed) (defBody s_law_mixed) (defScope s_law_mixed) .none kV_law_mixed dc_law_mixed pm_law_mixed an_law_mixed cd_law_mixed ct_law_mixed), sl_law_mixed⟩) (e_law_mixed : PySem.W.codeIn K cd_law_mixed "_law_mixed" = true) (k_law_mixed : PySem.W.keepIn K (.ref f_law_mixed) = true)
    {f_law_turned_model : Addr} {oc_law_turned_model kV_law_turned_model dc_law_turned_model pm_law_turned_model cd_law_turned_model ct_law_turned_model : Value} {od_law_turned_model an_law_turned_model : Option Addr} {sl_law_turned_model : Array (Option Value)}
    (a_law_turned_model : PySem.W.nsIn K mainGlobals "_law_turned_model" = some (some (.ref f_law_turned_model))) (l_law_turned_model : K.lookup f_law_turned_model = some ⟨oc_law_turned_model, od_law_turned_model, .func (PySem.W.fnOf "_law_turned_model" "_law_turned_model" (defArgs s_law_turned_model) (defBody s_law_turned_model) (defScope s_law_turned_model) .none kV_law_turned_model dc_law_turned_model pm_law_turned_model an_law_turned_model cd_law_turned_model ct_law_turned_model), sl_law_turned_model⟩) (e_law_turned_model : PySem.W.codeIn K cd_law_turned_model "_law_turned_model" = true) (k_law_turned_model : PySem.W.keepIn K (.ref f_law_turned_model) = true)
    {f_law_spots_right : Addr} {oc_law_spots_right kV_law_spots_right dc_law_spots_right pm_law_spots_right cd_law_spots_right ct_law_spots_right : Value} {od_law_spots_right an_law_spots_right : Option Addr} {sl_law_spots_right : Array (Option Value)}
    (a_law_spots_right : PySem.W.nsIn K mainGlobals "_law_spots_right" = some (some (.ref f_law_spots_right))) (l_law_spots_right : K.lookup f_law_spots_right = some ⟨oc_law_spots_right, od_law_spots_right, .func (PySem.W.fnOf "_law_spots_right" "_law_spots_right" (defArgs s_law_spots_right) (defBody s_law_spots_right) (defScope s_law_spots_right) .none kV_law_spots_right dc_law_spots_right pm_law_spots_right an_law_spots_right cd_law_spots_right ct_law_spots_right), sl_law_spots_right⟩) (e_law_spots_right : PySem.W.codeIn K cd_law_spots_right "_law_spots_right" = true) (k_law_spots_right : PySem.W.keepIn K (.ref f_law_spots_right) = true)
    {f_law_led : Addr} {oc_law_led kV_law_led dc_law_led pm_law_led cd_law_led ct_law_led : Value} {od_law_led an_law_led : Option Addr} {sl_law_led : Array (Option Value)}
    (a_law_led : PySem.W.nsIn K mainGlobals "_law_led" = some (some (.ref f_law_led))) (l_law_led : K.lookup f_law_led = some ⟨oc_law_led, od_law_led, .func (PySem.W.fnOf "_law_led" "_law_led" (defArgs s_law_led) (defBody s_law_led) (defScope s_law_led) .none kV_law_led dc_law_led pm_law_led an_law_led cd_law_led ct_law_led), sl_law_led⟩) (e_law_led : PySem.W.codeIn K cd_law_led "_law_led" = true) (k_law_led : PySem.W.keepIn K (.ref f_law_led) = true)
    {f_law_led_right : Addr} {oc_law_led_right kV_law_led_right dc_law_led_right pm_law_led_right cd_law_led_right ct_law_led_right : Value} {od_law_led_right an_law_led_right : Option Addr} {sl_law_led_right : Array (Option Value)}
    (a_law_led_right : PySem.W.nsIn K mainGlobals "_law_led_right" = some (some (.ref f_law_led_right))) (l_law_led_right : K.lookup f_law_led_right = some ⟨oc_law_led_right, od_law_led_right, .func (PySem.W.fnOf "_law_led_right" "_law_led_right" (defArgs s_law_led_right) (defBody s_law_led_right) (defScope s_law_led_right) .none kV_law_led_right dc_law_led_right pm_law_led_right an_law_led_right cd_law_led_right ct_law_led_right), sl_law_led_right⟩) (e_law_led_right : PySem.W.codeIn K cd_law_led_right "_law_led_right" = true) (k_law_led_right : PySem.W.keepIn K (.ref f_law_led_right) = true)
    {f_law_steps_right : Addr} {oc_law_steps_right kV_law_steps_right dc_law_steps_right pm_law_steps_right cd_law_steps_right ct_law_steps_right : Value} {od_law_steps_right an_law_steps_right : Option Addr} {sl_law_steps_right : Array (Option Value)}
    (a_law_steps_right : PySem.W.nsIn K mainGlobals "_law_steps_right" = some (some (.ref f_law_steps_right))) (l_law_steps_right : K.lookup f_law_steps_right = some ⟨oc_law_steps_right, od_law_steps_right, .func (PySem.W.fnOf "_law_steps_right" "_law_steps_right" (defArgs s_law_steps_right) (defBody s_law_steps_right) (defScope s_law_steps_right) .none kV_law_steps_right dc_law_steps_right pm_law_steps_right an_law_steps_right cd_law_steps_right ct_law_steps_right), sl_law_steps_right⟩) (e_law_steps_right : PySem.W.codeIn K cd_law_steps_right "_law_steps_right" = true) (k_law_steps_right : PySem.W.keepIn K (.ref f_law_steps_right) = true)
    {f_law_great_right : Addr} {oc_law_great_right kV_law_great_right dc_law_great_right pm_law_great_right cd_law_great_right ct_law_great_right : Value} {od_law_great_right an_law_great_right : Option Addr} {sl_law_great_right : Array (Option Value)}
    (a_law_great_right : PySem.W.nsIn K mainGlobals "_law_great_right" = some (some (.ref f_law_great_right))) (l_law_great_right : K.lookup f_law_great_right = some ⟨oc_law_great_right, od_law_great_right, .func (PySem.W.fnOf "_law_great_right" "_law_great_right" (defArgs s_law_great_right) (defBody s_law_great_right) (defScope s_law_great_right) .none kV_law_great_right dc_law_great_right pm_law_great_right an_law_great_right cd_law_great_right ct_law_great_right), sl_law_great_right⟩) (e_law_great_right : PySem.W.codeIn K cd_law_great_right "_law_great_right" = true) (k_law_great_right : PySem.W.keepIn K (.ref f_law_great_right) = true)
    {f_law_right : Addr} {oc_law_right kV_law_right dc_law_right pm_law_right cd_law_right ct_law_right : Value} {od_law_right an_law_right : Option Addr} {sl_law_right : Array (Option Value)}
    (a_law_right : PySem.W.nsIn K mainGlobals "_law_right" = some (some (.ref f_law_right))) (l_law_right : K.lookup f_law_right = some ⟨oc_law_right, od_law_right, .func (PySem.W.fnOf "_law_right" "_law_right" (defArgs s_law_right) (defBody s_law_right) (defScope s_law_right) .none kV_law_right dc_law_right pm_law_right an_law_right cd_law_right ct_law_right), sl_law_right⟩) (e_law_right : PySem.W.codeIn K cd_law_right "_law_right" = true) (k_law_right : PySem.W.keepIn K (.ref f_law_right) = true)
    {f_law : Addr} {oc_law kV_law dc_law pm_law cd_law ct_law : Value} {od_law an_law : Option Addr} {sl_law : Array (Option Value)}
    (a_law : PySem.W.nsIn K mainGlobals "law" = some (some (.ref f_law))) (l_law : K.lookup f_law = some ⟨oc_law, od_law, .func (PySem.W.fnOf "law" "law" (defArgs s_law) (defBody s_law) (defScope s_law) .none kV_law dc_law pm_law an_law cd_law ct_law), sl_law⟩) (e_law : PySem.W.codeIn K cd_law "law" = true) (k_law : PySem.W.keepIn K (.ref f_law) = true)
    {C_Machine : Addr} (a_Machine : PySem.W.nsIn K mainGlobals "Machine" = some (some (.ref C_Machine))) (pg_Machine : PySem.W.plainGet K C_Machine Str.empty = true) (hd_Machine : PySem.W.hasDictIn K C_Machine = true) (po_Machine : PySem.W.plainOver K C_Machine = true) (sa_Machine : PySem.W.findIn K (.ref C_Machine) "__setattr__" = some (some (.builtin "object.__setattr__"))) (mk_Machine : PySem.W.makesIn K C_Machine = true) (kc_Machine : PySem.W.keepIn K (.ref C_Machine) = true)
    (ca_Machine : PySem.W.findIn K (.ref C_Machine) "__class__" = some (some (.builtin "object.__class__"))) (cg_Machine : PySem.W.specialIn K (.builtin "object.__class__") "__get__" = some (some (.builtin "getset_descriptor.__get__"))) (ct_Machine : PySem.W.takesIn K (.builtin "object.__class__") = some true) (ne_Machine : PySem.W.findIn K (.ref C_Machine) "__ne__" = some (some (.builtin "object.__ne__"))) (tt_Machine : PySem.W.typeIn K (.ref C_Machine) = some (.type "type")) (cr_Machine : PySem.W.readsIn K C_Machine (.type "type") = true) (ck_Machine : PySem.W.specialIn K (.ref C_Machine) "__getattribute__" = some (some (.builtin "type.__getattribute__")))
    {u_Machine_MOST_PLACES : Tok} (cv_Machine_MOST_PLACES : PySem.W.findCls K (.ref C_Machine) (.type "type") "MOST_PLACES" = some (.val (.int 40 u_Machine_MOST_PLACES)))
    (nf_Machine_own_letters : PySem.W.findIn K (.ref C_Machine) "own_letters" = some none)
    (nf_Machine_own_rows : PySem.W.findIn K (.ref C_Machine) "own_rows" = some none)
    (nf_Machine_own_kinds : PySem.W.findIn K (.ref C_Machine) "own_kinds" = some none)
    {t_Machine_MOST_PLACES : Tok} (ka_Machine_MOST_PLACES : PySem.W.findIn K (.ref C_Machine) "MOST_PLACES" = some (some (.int 40 t_Machine_MOST_PLACES))) (kg_Machine_MOST_PLACES : PySem.W.specialIn K (.int 40 t_Machine_MOST_PLACES) "__get__" = some none)
    {f_Machine_init : Addr} {oc_Machine_init kV_Machine_init dc_Machine_init pm_Machine_init cd_Machine_init ct_Machine_init : Value} {od_Machine_init an_Machine_init : Option Addr} {sl_Machine_init : Array (Option Value)}
    (a_Machine_init : PySem.W.findIn K (.ref C_Machine) "__init__" = some (some (.ref f_Machine_init))) (i_Machine_init : PySem.W.isFn K (.ref f_Machine_init) = true)
    (l_Machine_init : K.lookup f_Machine_init = some ⟨oc_Machine_init, od_Machine_init, .func (PySem.W.fnOf "__init__" "Machine.__init__" (defArgs s_Machine_init) (defBody s_Machine_init) (defScope s_Machine_init) .none kV_Machine_init dc_Machine_init pm_Machine_init an_Machine_init cd_Machine_init ct_Machine_init), sl_Machine_init⟩) (e_Machine_init : PySem.W.codeIn K cd_Machine_init "Machine.__init__" = true) (k_Machine_init : PySem.W.keepIn K (.ref f_Machine_init) = true)
    {f_Machine_rows : Addr} {oc_Machine_rows kV_Machine_rows dc_Machine_rows pm_Machine_rows cd_Machine_rows ct_Machine_rows : Value} {od_Machine_rows an_Machine_rows : Option Addr} {sl_Machine_rows : Array (Option Value)}
    (a_Machine_rows : PySem.W.findIn K (.ref C_Machine) "rows" = some (some (.ref f_Machine_rows))) (i_Machine_rows : PySem.W.isFn K (.ref f_Machine_rows) = true)
    (l_Machine_rows : K.lookup f_Machine_rows = some ⟨oc_Machine_rows, od_Machine_rows, .func (PySem.W.fnOf "rows" "Machine.rows" (defArgs s_Machine_rows) (defBody s_Machine_rows) (defScope s_Machine_rows) .none kV_Machine_rows dc_Machine_rows pm_Machine_rows an_Machine_rows cd_Machine_rows ct_Machine_rows), sl_Machine_rows⟩) (e_Machine_rows : PySem.W.codeIn K cd_Machine_rows "Machine.rows" = true) (k_Machine_rows : PySem.W.keepIn K (.ref f_Machine_rows) = true)
    {f_Machine_kinds : Addr} {oc_Machine_kinds kV_Machine_kinds dc_Machine_kinds pm_Machine_kinds cd_Machine_kinds ct_Machine_kinds : Value} {od_Machine_kinds an_Machine_kinds : Option Addr} {sl_Machine_kinds : Array (Option Value)}
    (a_Machine_kinds : PySem.W.findIn K (.ref C_Machine) "kinds" = some (some (.ref f_Machine_kinds))) (i_Machine_kinds : PySem.W.isFn K (.ref f_Machine_kinds) = true)
    (l_Machine_kinds : K.lookup f_Machine_kinds = some ⟨oc_Machine_kinds, od_Machine_kinds, .func (PySem.W.fnOf "kinds" "Machine.kinds" (defArgs s_Machine_kinds) (defBody s_Machine_kinds) (defScope s_Machine_kinds) .none kV_Machine_kinds dc_Machine_kinds pm_Machine_kinds an_Machine_kinds cd_Machine_kinds ct_Machine_kinds), sl_Machine_kinds⟩) (e_Machine_kinds : PySem.W.codeIn K cd_Machine_kinds "Machine.kinds" = true) (k_Machine_kinds : PySem.W.keepIn K (.ref f_Machine_kinds) = true)
    {f_Machine_takes : Addr} {oc_Machine_takes kV_Machine_takes dc_Machine_takes pm_Machine_takes cd_Machine_takes ct_Machine_takes : Value} {od_Machine_takes an_Machine_takes : Option Addr} {sl_Machine_takes : Array (Option Value)}
    (a_Machine_takes : PySem.W.findIn K (.ref C_Machine) "takes" = some (some (.ref f_Machine_takes))) (i_Machine_takes : PySem.W.isFn K (.ref f_Machine_takes) = true)
    (l_Machine_takes : K.lookup f_Machine_takes = some ⟨oc_Machine_takes, od_Machine_takes, .func (PySem.W.fnOf "takes" "Machine.takes" (defArgs s_Machine_takes) (defBody s_Machine_takes) (defScope s_Machine_takes) .none kV_Machine_takes dc_Machine_takes pm_Machine_takes an_Machine_takes cd_Machine_takes ct_Machine_takes), sl_Machine_takes⟩) (e_Machine_takes : PySem.W.codeIn K cd_Machine_takes "Machine.takes" = true) (k_Machine_takes : PySem.W.keepIn K (.ref f_Machine_takes) = true)
    {f_Machine_eq : Addr} {oc_Machine_eq kV_Machine_eq dc_Machine_eq pm_Machine_eq cd_Machine_eq ct_Machine_eq : Value} {od_Machine_eq an_Machine_eq : Option Addr} {sl_Machine_eq : Array (Option Value)}
    (a_Machine_eq : PySem.W.findIn K (.ref C_Machine) "__eq__" = some (some (.ref f_Machine_eq))) (i_Machine_eq : PySem.W.isFn K (.ref f_Machine_eq) = true)
    (l_Machine_eq : K.lookup f_Machine_eq = some ⟨oc_Machine_eq, od_Machine_eq, .func (PySem.W.fnOf "__eq__" "Machine.__eq__" (defArgs s_Machine_eq) (defBody s_Machine_eq) (defScope s_Machine_eq) .none kV_Machine_eq dc_Machine_eq pm_Machine_eq an_Machine_eq cd_Machine_eq ct_Machine_eq), sl_Machine_eq⟩) (e_Machine_eq : PySem.W.codeIn K cd_Machine_eq "Machine.__eq__" = true) (k_Machine_eq : PySem.W.keepIn K (.ref f_Machine_eq) = true)
    {f_Machine_repr : Addr} {oc_Machine_repr kV_Machine_repr dc_Machine_repr pm_Machine_repr cd_Machine_repr ct_Machine_repr : Value} {od_Machine_repr an_Machine_repr : Option Addr} {sl_Machine_repr : Array (Option Value)}
    (a_Machine_repr : PySem.W.findIn K (.ref C_Machine) "__repr__" = some (some (.ref f_Machine_repr))) (i_Machine_repr : PySem.W.isFn K (.ref f_Machine_repr) = true)
    (l_Machine_repr : K.lookup f_Machine_repr = some ⟨oc_Machine_repr, od_Machine_repr, .func (PySem.W.fnOf "__repr__" "Machine.__repr__" (defArgs s_Machine_repr) (defBody s_Machine_repr) (defScope s_Machine_repr) .none kV_Machine_repr dc_Machine_repr pm_Machine_repr an_Machine_repr cd_Machine_repr ct_Machine_repr), sl_Machine_repr⟩) (e_Machine_repr : PySem.W.codeIn K cd_Machine_repr "Machine.__repr__" = true) (k_Machine_repr : PySem.W.keepIn K (.ref f_Machine_repr) = true)
    {f_Machine_invert : Addr} {oc_Machine_invert kV_Machine_invert dc_Machine_invert pm_Machine_invert cd_Machine_invert ct_Machine_invert : Value} {od_Machine_invert an_Machine_invert : Option Addr} {sl_Machine_invert : Array (Option Value)}
    (a_Machine_invert : PySem.W.findIn K (.ref C_Machine) "__invert__" = some (some (.ref f_Machine_invert))) (i_Machine_invert : PySem.W.isFn K (.ref f_Machine_invert) = true)
    (l_Machine_invert : K.lookup f_Machine_invert = some ⟨oc_Machine_invert, od_Machine_invert, .func (PySem.W.fnOf "__invert__" "Machine.__invert__" (defArgs s_Machine_invert) (defBody s_Machine_invert) (defScope s_Machine_invert) .none kV_Machine_invert dc_Machine_invert pm_Machine_invert an_Machine_invert cd_Machine_invert ct_Machine_invert), sl_Machine_invert⟩) (e_Machine_invert : PySem.W.codeIn K cd_Machine_invert "Machine.__invert__" = true) (k_Machine_invert : PySem.W.keepIn K (.ref f_Machine_invert) = true)
    {C_NotComeTo fi_NotComeTo pr_NotComeTo N_NotComeTo cda_NotComeTo cc_NotComeTo : Addr} {nm_NotComeTo q_NotComeTo : Str} {bs_NotComeTo : List Value} {sn_NotComeTo : List Str} {sub_NotComeTo : List Value} {ab_NotComeTo : Bool} {col_NotComeTo : Option Bool} {dd_NotComeTo : Option Addr} {k0_NotComeTo k1_NotComeTo k2_NotComeTo k3_NotComeTo k5_NotComeTo : Option Value} {kV_NotComeTo doc_NotComeTo pm_NotComeTo ct_NotComeTo oc_NotComeTo ccl_NotComeTo cl_NotComeTo : Value} {an_NotComeTo od_NotComeTo cdd_NotComeTo cld_NotComeTo : Option Addr} {osl_NotComeTo ccs_NotComeTo csl_NotComeTo : Array (Option Value)} {vs_NotComeTo : Array Value} {file_NotComeTo : Str} {tf_NotComeTo : Tok}
    (a_NotComeTo : PySem.W.nsIn K mainGlobals "NotComeTo" = some (some (.ref C_NotComeTo))) (lc_NotComeTo : K.lookup C_NotComeTo = some (excClassObj nm_NotComeTo q_NotComeTo C_NotComeTo N_NotComeTo bs_NotComeTo (.ref pr_NotComeTo :: [.type "RuntimeError", .type "Exception", .type "BaseException", .type "object"]) true sn_NotComeTo sub_NotComeTo ab_NotComeTo col_NotComeTo dd_NotComeTo k0_NotComeTo k1_NotComeTo k2_NotComeTo k3_NotComeTo k5_NotComeTo "RuntimeError.__new__"))
    (ii_NotComeTo : PySem.W.findIn K (.ref C_NotComeTo) "__init__" = some (some (.ref fi_NotComeTo))) (li_NotComeTo : K.lookup fi_NotComeTo = some ⟨oc_NotComeTo, od_NotComeTo, .func (PySem.W.ksFn "__init__" "NotComeTo.__init__" (defArgs s_NotComeTo_init) (defBody s_NotComeTo_init) (defScope s_NotComeTo_init) .none kV_NotComeTo doc_NotComeTo pm_NotComeTo an_NotComeTo (.ref cda_NotComeTo) ct_NotComeTo cc_NotComeTo), osl_NotComeTo⟩) (ei_NotComeTo : PySem.W.codeIn K (.ref cda_NotComeTo) "NotComeTo.__init__" = true)
    (lk_NotComeTo : K.lookup cda_NotComeTo = some ⟨ccl_NotComeTo, cdd_NotComeTo, .fields vs_NotComeTo, ccs_NotComeTo⟩) (v2_NotComeTo : vs_NotComeTo[2]? = some (.str file_NotComeTo tf_NotComeTo)) (fl_NotComeTo : ((PW.main.file : Str) == file_NotComeTo) = true) (lcc_NotComeTo : K.lookup cc_NotComeTo = some ⟨cl_NotComeTo, cld_NotComeTo, .cell (some (.ref C_NotComeTo)), csl_NotComeTo⟩)
    (su_NotComeTo : PySem.W.ks_superIn K C_NotComeTo C_NotComeTo "__init__" = some (some (.builtin "RuntimeError.__init__"))) (se_NotComeTo : PySem.W.mroIn K C_NotComeTo (.ref C_NotComeTo) = some true) (sb_NotComeTo : PySem.W.subIn K (.ref C_NotComeTo) (.type "RuntimeError") = some true) (op_NotComeTo : PySem.W.nsIn K cStatics "thirdparty.any" = some none) (tp_NotComeTo : (PW.main.scope.names.lookup ("super" : Str)).isSome = false)
    (sa_NotComeTo : PySem.W.findIn K (.ref C_NotComeTo) "__setattr__" = some (some (.builtin "object.__setattr__"))) (ti_NotComeTo : PySem.W.typeIn K (.ref fi_NotComeTo) = some (.type "function")) (kc_NotComeTo : PySem.W.keepIn K (.ref C_NotComeTo) = true) (ex_NotComeTo : PySem.W.subIn K (.ref C_NotComeTo) (.type "BaseException") = some true) (ty_NotComeTo : PySem.W.typeIn K (.ref C_NotComeTo) = some (.type "type"))
    (ga_NotComeTo : PySem.W.findIn K (.ref C_NotComeTo) "__getattribute__" = some (some (.builtin "BaseException.__getattribute__"))) (gg_NotComeTo : PySem.W.findIn K (.ref C_NotComeTo) "__getattr__" = some none) (hdc_NotComeTo : PySem.W.hasDictIn K C_NotComeTo = true) (ss_NotComeTo : PySem.W.subIn K (.ref C_NotComeTo) (.ref C_NotComeTo) = some true)
    (nf_NotComeTo_place : PySem.W.findIn K (.ref C_NotComeTo) "place" = some none)
    (z_abs : PySem.W.nsIn K mainGlobals "abs" = some none)
    (z_all : PySem.W.nsIn K mainGlobals "all" = some none)
    (z_bool : PySem.W.nsIn K mainGlobals "bool" = some none)
    (z_divmod : PySem.W.nsIn K mainGlobals "divmod" = some none)
    (z_enumerate : PySem.W.nsIn K mainGlobals "enumerate" = some none)
    (z_int : PySem.W.nsIn K mainGlobals "int" = some none)
    (z_isinstance : PySem.W.nsIn K mainGlobals "isinstance" = some none)
    (z_len : PySem.W.nsIn K mainGlobals "len" = some none)
    (z_list : PySem.W.nsIn K mainGlobals "list" = some none)
    (z_max : PySem.W.nsIn K mainGlobals "max" = some none)
    (z_min : PySem.W.nsIn K mainGlobals "min" = some none)
    (z_property : PySem.W.nsIn K mainGlobals "property" = some none)
    (z_range : PySem.W.nsIn K mainGlobals "range" = some none)
    (z_repr : PySem.W.nsIn K mainGlobals "repr" = some none)
    (z_set : PySem.W.nsIn K mainGlobals "set" = some none)
    (z_sorted : PySem.W.nsIn K mainGlobals "sorted" = some none)
    (z_str : PySem.W.nsIn K mainGlobals "str" = some none)
    (z_super : PySem.W.nsIn K mainGlobals "super" = some none)
    (z_tuple : PySem.W.nsIn K mainGlobals "tuple" = some none)
    (z_zip : PySem.W.nsIn K mainGlobals "zip" = some none)
    {t_SMALL : Tok} (y_SMALL : PySem.W.nsIn K mainGlobals "SMALL" = some (some (.str "abcdefghijklmnopqrstuvwxyz" t_SMALL)))
    {t_MOST_LETTERS : Tok} (y_MOST_LETTERS : PySem.W.nsIn K mainGlobals "MOST_LETTERS" = some (some (.int 3 t_MOST_LETTERS)))
    : ∃ T : All K mg, T.f_law = f_law := by
  have F_is_integer := fun_mk (st := s_is_integer) l_is_integer e_is_integer k_is_integer
  have B_is_integer := F_is_integer.binds (ps := ["value"]) fun _ _ _ _ _ _ us hl => match us, hl with | [_], _ => rfl
  have F_is_count := fun_mk (st := s_is_count) l_is_count e_is_count k_is_count
  have B_is_count := F_is_count.binds (ps := ["value"]) fun _ _ _ _ _ _ us hl => match us, hl with | [_], _ => rfl
  have F_is_list := fun_mk (st := s_is_list) l_is_list e_is_list k_is_list
  have B_is_list := F_is_list.binds (ps := ["value"]) fun _ _ _ _ _ _ us hl => match us, hl with | [_], _ => rfl
  have F_is_text := fun_mk (st := s_is_text) l_is_text e_is_text k_is_text
  have B_is_text := F_is_text.binds (ps := ["value"]) fun _ _ _ _ _ _ us hl => match us, hl with | [_], _ => rfl
  have F_are_letters := fun_mk (st := s_are_letters) l_are_letters e_are_letters k_are_letters
  have B_are_letters := F_are_letters.binds (ps := ["value"]) fun _ _ _ _ _ _ us hl => match us, hl with | [_], _ => rfl
  have F_is_text_over := fun_mk (st := s_is_text_over) l_is_text_over e_is_text_over k_is_text_over
  have B_is_text_over := F_is_text_over.binds (ps := ["letters", "value"]) fun _ _ _ _ _ _ us hl => match us, hl with | [_, _], _ => rfl
  have F_want_few := fun_mk (st := s_want_few) l_want_few e_want_few k_want_few
  have B_want_few := F_want_few.binds (ps := ["what", "many", "limit"]) fun _ _ _ _ _ _ us hl => match us, hl with | [_, _, _], _ => rfl
  have F_is_row := fun_mk (st := s_is_row) l_is_row e_is_row k_is_row
  have B_is_row := F_is_row.binds (ps := ["value", "size", "many"]) fun _ _ _ _ _ _ us hl => match us, hl with | [_, _, _], _ => rfl
  have F_want_machine := fun_mk (st := s_want_machine) l_want_machine e_want_machine k_want_machine
  have B_want_machine := F_want_machine.binds (ps := ["letters", "rows", "kinds"]) fun _ _ _ _ _ _ us hl => match us, hl with | [_, _, _], _ => rfl
  have F_met_from := fun_mk (st := s_met_from) l_met_from e_met_from k_met_from
  have B_met_from := F_met_from.binds (ps := ["rows", "start"]) fun _ _ _ _ _ _ us hl => match us, hl with | [_, _], _ => rfl
  have F_want_text := fun_mk (st := s_want_text) l_want_text e_want_text k_want_text
  have B_want_text := F_want_text.binds (ps := ["letters", "text"]) fun _ _ _ _ _ _ us hl => match us, hl with | [_, _], _ => rfl
  have F_want_letter := fun_mk (st := s_want_letter) l_want_letter e_want_letter k_want_letter
  have B_want_letter := F_want_letter.binds (ps := ["letters", "letter"]) fun _ _ _ _ _ _ us hl => match us, hl with | [_, _], _ => rfl
  have F_want_place := fun_mk (st := s_want_place) l_want_place e_want_place k_want_place
  have B_want_place := F_want_place.binds (ps := ["machine", "place"]) fun _ _ _ _ _ _ us hl => match us, hl with | [_, _], _ => rfl
  have F_led := fun_mk (st := s_led) l_led e_led k_led
  have B_led := F_led.binds (ps := ["machine", "place", "text"]) fun _ _ _ _ _ _ us hl => match us, hl with | [_, _, _], _ => rfl
  have F_is_taken := fun_mk (st := s_is_taken) l_is_taken e_is_taken k_is_taken
  have B_is_taken := F_is_taken.binds (ps := ["machine", "text"]) fun _ _ _ _ _ _ us hl => match us, hl with | [_, _], _ => rfl
  have F_contrary := fun_mk (st := s_contrary) l_contrary e_contrary k_contrary
  have B_contrary := F_contrary.binds (ps := ["machine"]) fun _ _ _ _ _ _ us hl => match us, hl with | [_], _ => rfl
  have F_lists_of := fun_mk (st := s_lists_of) l_lists_of e_lists_of k_lists_of
  have B_lists_of := F_lists_of.binds (ps := ["rows"]) fun _ _ _ _ _ _ us hl => match us, hl with | [_], _ => rfl
  have F_want_listed := fun_mk (st := s_want_listed) l_want_listed e_want_listed k_want_listed
  have B_want_listed := F_want_listed.binds (ps := ["machine", "places"]) fun _ _ _ _ _ _ us hl => match us, hl with | [_, _], _ => rfl
  have F_turned_by := fun_mk (st := s_turned_by) l_turned_by e_turned_by k_turned_by
  have B_turned_by := F_turned_by.binds (ps := ["machine", "places"]) fun _ _ _ _ _ _ us hl => match us, hl with | [_, _], _ => rfl
  have F_turned := fun_mk (st := s_turned) l_turned e_turned k_turned
  have B_turned := F_turned.binds (ps := ["machine", "places"]) fun _ _ _ _ _ _ us hl => match us, hl with | [_, _], _ => rfl
  have F_redirected := fun_mk (st := s_redirected) l_redirected e_redirected k_redirected
  have B_redirected := F_redirected.binds (ps := ["machine", "place", "letter", "goal"]) fun _ _ _ _ _ _ us hl => match us, hl with | [_, _, _, _], _ => rfl
  have F_law_pot := fun_mk (st := s_law_pot) l_law_pot e_law_pot k_law_pot
  have B_law_pot := F_law_pot.binds (ps := ["_law_script", "_law_k"]) fun _ _ _ _ _ _ us hl => match us, hl with | [_, _], _ => rfl
  have F_law_draw := fun_mk (st := s_law_draw) l_law_draw e_law_draw k_law_draw
  have B_law_draw := F_law_draw.binds (ps := ["_law_pot_here", "_law_size"]) fun _ _ _ _ _ _ us hl => match us, hl with | [_, _], _ => rfl
  have F_law_pick := fun_mk (st := s_law_pick) l_law_pick e_law_pick k_law_pick
  have B_law_pick := F_law_pick.binds (ps := ["_law_pot_here", "_law_pack"]) fun _ _ _ _ _ _ us hl => match us, hl with | [_, _], _ => rfl
  have F_law_met := fun_mk (st := s_law_met) l_law_met e_law_met k_law_met
  have B_law_met := F_law_met.binds (ps := ["_law_rows_here"]) fun _ _ _ _ _ _ us hl => match us, hl with | [_], _ => rfl
  have F_law_turned := fun_mk (st := s_law_turned) l_law_turned e_law_turned k_law_turned
  have B_law_turned := F_law_turned.binds (ps := ["_law_pot_here", "_law_rows_here"]) fun _ _ _ _ _ _ us hl => match us, hl with | [_, _], _ => rfl
  have F_law_rows := fun_mk (st := s_law_rows) l_law_rows e_law_rows k_law_rows
  have B_law_rows := F_law_rows.binds (ps := ["_law_pot_here", "_law_signs_here", "_law_most"]) fun _ _ _ _ _ _ us hl => match us, hl with | [_, _, _], _ => rfl
  have F_law_model := fun_mk (st := s_law_model) l_law_model e_law_model k_law_model
  have B_law_model := F_law_model.binds (ps := ["_law_pot_here", "_law_signs_here", "_law_most"]) fun _ _ _ _ _ _ us hl => match us, hl with | [_, _, _], _ => rfl
  have F_law_machine := fun_mk (st := s_law_machine) l_law_machine e_law_machine k_law_machine
  have B_law_machine := F_law_machine.binds (ps := ["_law_model_here"]) fun _ _ _ _ _ _ us hl => match us, hl with | [_], _ => rfl
  have F_law_signs := fun_mk (st := s_law_signs) l_law_signs e_law_signs k_law_signs
  have B_law_signs := F_law_signs.binds (ps := ["_law_pot_here"]) fun _ _ _ _ _ _ us hl => match us, hl with | [_], _ => rfl
  have F_law_takes := fun_mk (st := s_law_takes) l_law_takes e_law_takes k_law_takes
  have B_law_takes := F_law_takes.binds (ps := ["_law_model_here", "_law_text"]) fun _ _ _ _ _ _ us hl => match us, hl with | [_, _], _ => rfl
  have F_law_words := fun_mk (st := s_law_words) l_law_words e_law_words k_law_words
  have B_law_words := F_law_words.binds (ps := ["_law_signs_here", "_law_most"]) fun _ _ _ _ _ _ us hl => match us, hl with | [_, _], _ => rfl
  have F_law_mixed := fun_mk (st := s_law_mixed) l_law_mixed e_law_mixed k_law_mixed
  have B_law_mixed := F_law_mixed.binds (ps := ["_law_pot_here", "_law_some"]) fun _ _ _ _ _ _ us hl => match us, hl with | [_, _], _ => rfl
  have F_law_turned_model := fun_mk (st := s_law_turned_model) l_law_turned_model e_law_turned_model k_law_turned_model
  have B_law_turned_model := F_law_turned_model.binds (ps := ["_law_model_here", "_law_spots"]) fun _ _ _ _ _ _ us hl => match us, hl with | [_, _], _ => rfl
  have F_law_spots_right := fun_mk (st := s_law_spots_right) l_law_spots_right e_law_spots_right k_law_spots_right
  have B_law_spots_right := F_law_spots_right.binds (ps := ["_law_pot_here", "_law_model_here", "_law_net"]) fun _ _ _ _ _ _ us hl => match us, hl with | [_, _, _], _ => rfl
  have F_law_led := fun_mk (st := s_law_led) l_law_led e_law_led k_law_led
  have B_law_led := F_law_led.binds (ps := ["_law_net", "_law_spot", "_law_sign", "_law_goal_now"]) fun _ _ _ _ _ _ us hl => match us, hl with | [_, _, _, _], _ => rfl
  have F_law_led_right := fun_mk (st := s_law_led_right) l_law_led_right e_law_led_right k_law_led_right
  have B_law_led_right := F_law_led_right.binds (ps := ["_law_net", "_law_told", "_law_spot", "_law_sign", "_law_goals"]) fun _ _ _ _ _ _ us hl => match us, hl with | [_, _, _, _, _], _ => rfl
  have F_law_steps_right := fun_mk (st := s_law_steps_right) l_law_steps_right e_law_steps_right k_law_steps_right
  have B_law_steps_right := F_law_steps_right.binds (ps := ["_law_model_here", "_law_net"]) fun _ _ _ _ _ _ us hl => match us, hl with | [_, _], _ => rfl
  have F_law_great_right := fun_mk (st := s_law_great_right) l_law_great_right e_law_great_right k_law_great_right
  have B_law_great_right := F_law_great_right.binds (ps := ["_law_pot_here"]) fun _ _ _ _ _ _ us hl => match us, hl with | [_], _ => rfl
  have F_law_right := fun_mk (st := s_law_right) l_law_right e_law_right k_law_right
  have B_law_right := F_law_right.binds (ps := ["_law_pot_here"]) fun _ _ _ _ _ _ us hl => match us, hl with | [_], _ => rfl
  have F_law := fun_mk (st := s_law) l_law e_law k_law
  have B_law := F_law.binds (ps := ["_law_script"]) fun _ _ _ _ _ _ us hl => match us, hl with | [_], _ => rfl
  have F_Machine_init := fun_mk (st := s_Machine_init) l_Machine_init e_Machine_init k_Machine_init
  have B_Machine_init := F_Machine_init.binds (ps := ["self", "letters", "rows", "kinds"]) fun _ _ _ _ _ _ us hl => match us, hl with | [_, _, _, _], _ => rfl
  have F_Machine_rows := fun_mk (st := s_Machine_rows) l_Machine_rows e_Machine_rows k_Machine_rows
  have B_Machine_rows := F_Machine_rows.binds (ps := ["self"]) fun _ _ _ _ _ _ us hl => match us, hl with | [_], _ => rfl
  have F_Machine_kinds := fun_mk (st := s_Machine_kinds) l_Machine_kinds e_Machine_kinds k_Machine_kinds
  have B_Machine_kinds := F_Machine_kinds.binds (ps := ["self"]) fun _ _ _ _ _ _ us hl => match us, hl with | [_], _ => rfl
  have F_Machine_takes := fun_mk (st := s_Machine_takes) l_Machine_takes e_Machine_takes k_Machine_takes
  have B_Machine_takes := F_Machine_takes.binds (ps := ["self", "text"]) fun _ _ _ _ _ _ us hl => match us, hl with | [_, _], _ => rfl
  have F_Machine_eq := fun_mk (st := s_Machine_eq) l_Machine_eq e_Machine_eq k_Machine_eq
  have B_Machine_eq := F_Machine_eq.binds (ps := ["self", "other"]) fun _ _ _ _ _ _ us hl => match us, hl with | [_, _], _ => rfl
  have F_Machine_repr := fun_mk (st := s_Machine_repr) l_Machine_repr e_Machine_repr k_Machine_repr
  have B_Machine_repr := F_Machine_repr.binds (ps := ["self"]) fun _ _ _ _ _ _ us hl => match us, hl with | [_], _ => rfl
  have F_Machine_invert := fun_mk (st := s_Machine_invert) l_Machine_invert e_Machine_invert k_Machine_invert
  have B_Machine_invert := F_Machine_invert.binds (ps := ["self"]) fun _ _ _ _ _ _ us hl => match us, hl with | [_], _ => rfl
  have EF_NotComeTo := errF_mk (P := PW) (ps := ["self", "place"]) PySem.F.excBase_RuntimeError PySem.W.kxs_RuntimeError (by decide +kernel) PySem.F.store_RuntimeError.passes lc_NotComeTo li_NotComeTo ei_NotComeTo lk_NotComeTo v2_NotComeTo fl_NotComeTo lcc_NotComeTo (fun s us hl => match us, hl with | [_, _], _ => .of_eq rfl) su_NotComeTo se_NotComeTo sb_NotComeTo op_NotComeTo (PySem.W.mg_none_of X G z_super) tp_NotComeTo sa_NotComeTo ii_NotComeTo ti_NotComeTo kc_NotComeTo ex_NotComeTo ty_NotComeTo
  exact ⟨⟨_, PySem.W.mg_of X G a_NotComeTo, ⟨_, _, _, _, _, _, _, _, ⟨EF_NotComeTo, es_NotComeTo⟩, eb_NotComeTo, nf_NotComeTo_place⟩, ⟨ga_NotComeTo, gg_NotComeTo, ex_NotComeTo, hdc_NotComeTo⟩, PySem.W.exm_ref ex_NotComeTo hdc_NotComeTo ty_NotComeTo ss_NotComeTo,
    nf_NotComeTo_place,
    _, _, ⟨F_is_integer, B_is_integer, PySem.W.mg_of X G a_is_integer⟩,
    _, _, ⟨F_is_count, B_is_count, PySem.W.mg_of X G a_is_count⟩,
    _, _, ⟨F_is_list, B_is_list, PySem.W.mg_of X G a_is_list⟩,
    _, _, ⟨F_is_text, B_is_text, PySem.W.mg_of X G a_is_text⟩,
    _, _, ⟨F_are_letters, B_are_letters, PySem.W.mg_of X G a_are_letters⟩,
    _, _, ⟨F_is_text_over, B_is_text_over, PySem.W.mg_of X G a_is_text_over⟩,
    _, _, ⟨F_want_few, B_want_few, PySem.W.mg_of X G a_want_few⟩,
    _, _, ⟨F_is_row, B_is_row, PySem.W.mg_of X G a_is_row⟩,
    _, _, ⟨F_want_machine, B_want_machine, PySem.W.mg_of X G a_want_machine⟩,
    _, _, ⟨F_met_from, B_met_from, PySem.W.mg_of X G a_met_from⟩,
    _, _, ⟨F_want_text, B_want_text, PySem.W.mg_of X G a_want_text⟩,
    _, _, ⟨F_want_letter, B_want_letter, PySem.W.mg_of X G a_want_letter⟩,
    _, _, ⟨F_want_place, B_want_place, PySem.W.mg_of X G a_want_place⟩,
    _, _, ⟨F_led, B_led, PySem.W.mg_of X G a_led⟩,
    _, _, ⟨F_is_taken, B_is_taken, PySem.W.mg_of X G a_is_taken⟩,
    _, _, ⟨F_contrary, B_contrary, PySem.W.mg_of X G a_contrary⟩,
    _, _, ⟨F_lists_of, B_lists_of, PySem.W.mg_of X G a_lists_of⟩,
    _, _, ⟨F_want_listed, B_want_listed, PySem.W.mg_of X G a_want_listed⟩,
    _, _, ⟨F_turned_by, B_turned_by, PySem.W.mg_of X G a_turned_by⟩,
    _, _, ⟨F_turned, B_turned, PySem.W.mg_of X G a_turned⟩,
    _, _, ⟨F_redirected, B_redirected, PySem.W.mg_of X G a_redirected⟩,
    _, _, ⟨F_law_pot, B_law_pot, PySem.W.mg_of X G a_law_pot⟩,
    _, _, ⟨F_law_draw, B_law_draw, PySem.W.mg_of X G a_law_draw⟩,
    _, _, ⟨F_law_pick, B_law_pick, PySem.W.mg_of X G a_law_pick⟩,
    _, _, ⟨F_law_met, B_law_met, PySem.W.mg_of X G a_law_met⟩,
    _, _, ⟨F_law_turned, B_law_turned, PySem.W.mg_of X G a_law_turned⟩,
    _, _, ⟨F_law_rows, B_law_rows, PySem.W.mg_of X G a_law_rows⟩,
    _, _, ⟨F_law_model, B_law_model, PySem.W.mg_of X G a_law_model⟩,
    _, _, ⟨F_law_machine, B_law_machine, PySem.W.mg_of X G a_law_machine⟩,
    _, _, ⟨F_law_signs, B_law_signs, PySem.W.mg_of X G a_law_signs⟩,
    _, _, ⟨F_law_takes, B_law_takes, PySem.W.mg_of X G a_law_takes⟩,
    _, _, ⟨F_law_words, B_law_words, PySem.W.mg_of X G a_law_words⟩,
    _, _, ⟨F_law_mixed, B_law_mixed, PySem.W.mg_of X G a_law_mixed⟩,
    _, _, ⟨F_law_turned_model, B_law_turned_model, PySem.W.mg_of X G a_law_turned_model⟩,
    _, _, ⟨F_law_spots_right, B_law_spots_right, PySem.W.mg_of X G a_law_spots_right⟩,
    _, _, ⟨F_law_led, B_law_led, PySem.W.mg_of X G a_law_led⟩,
    _, _, ⟨F_law_led_right, B_law_led_right, PySem.W.mg_of X G a_law_led_right⟩,
    _, _, ⟨F_law_steps_right, B_law_steps_right, PySem.W.mg_of X G a_law_steps_right⟩,
    _, _, ⟨F_law_great_right, B_law_great_right, PySem.W.mg_of X G a_law_great_right⟩,
    _, _, ⟨F_law_right, B_law_right, PySem.W.mg_of X G a_law_right⟩,
    _, _, ⟨F_law, B_law, PySem.W.mg_of X G a_law⟩,
    _, ⟨pg_Machine, hd_Machine, po_Machine, sa_Machine⟩, PySem.W.mg_of X G a_Machine, mk_Machine, kc_Machine, ca_Machine, cg_Machine, ct_Machine, ne_Machine, tt_Machine, ⟨cr_Machine, ck_Machine⟩,
    ⟨_, ⟨cv_Machine_MOST_PLACES, ⟨_, rfl⟩⟩⟩,
    nf_Machine_own_letters,
    nf_Machine_own_rows,
    nf_Machine_own_kinds,
    ⟨_, ⟨ka_Machine_MOST_PLACES, ⟨_, rfl⟩, kg_Machine_MOST_PLACES, by decide +kernel⟩⟩,
    _, _, ⟨F_Machine_init, B_Machine_init, ⟨a_Machine_init, i_Machine_init, k_Machine_init⟩⟩,
    _, _, ⟨F_Machine_rows, B_Machine_rows, ⟨a_Machine_rows, i_Machine_rows, k_Machine_rows⟩⟩,
    _, _, ⟨F_Machine_kinds, B_Machine_kinds, ⟨a_Machine_kinds, i_Machine_kinds, k_Machine_kinds⟩⟩,
    _, _, ⟨F_Machine_takes, B_Machine_takes, ⟨a_Machine_takes, i_Machine_takes, k_Machine_takes⟩⟩,
    _, _, ⟨F_Machine_eq, B_Machine_eq, ⟨a_Machine_eq, i_Machine_eq, k_Machine_eq⟩⟩,
    _, _, ⟨F_Machine_repr, B_Machine_repr, ⟨a_Machine_repr, i_Machine_repr, k_Machine_repr⟩⟩,
    _, _, ⟨F_Machine_invert, B_Machine_invert, ⟨a_Machine_invert, i_Machine_invert, k_Machine_invert⟩⟩,
    PySem.W.mg_none_of X G z_abs,
    PySem.W.mg_none_of X G z_all,
    PySem.W.mg_none_of X G z_bool,
    PySem.W.mg_none_of X G z_divmod,
    PySem.W.mg_none_of X G z_enumerate,
    PySem.W.mg_none_of X G z_int,
    PySem.W.mg_none_of X G z_isinstance,
    PySem.W.mg_none_of X G z_len,
    PySem.W.mg_none_of X G z_list,
    PySem.W.mg_none_of X G z_max,
    PySem.W.mg_none_of X G z_min,
    PySem.W.mg_none_of X G z_property,
    PySem.W.mg_none_of X G z_range,
    PySem.W.mg_none_of X G z_repr,
    PySem.W.mg_none_of X G z_set,
    PySem.W.mg_none_of X G z_sorted,
    PySem.W.mg_none_of X G z_str,
    PySem.W.mg_none_of X G z_super,
    PySem.W.mg_none_of X G z_tuple,
    PySem.W.mg_none_of X G z_zip,
    ⟨_, PySem.W.mg_of X G y_SMALL⟩,
    ⟨_, PySem.W.mg_of X G y_MOST_LETTERS⟩⟩, rfl⟩
end Lw
open PySem PySem.W PyProof.Rows
set_option maxRecDepth 100000 in
set_option maxHeartbeats 0 in
theorem PySem.Challenge.cw_missedparts_k74_whole_kinds_and_goals_tu_holds : PySem.Challenge.rw_missedparts_k74_whole_kinds_and_goals_tu.Holds := by
  w_on; o_law; k_head; (case hw => w_witness2)
  k_fill
  refine Att.attach_callB rfl rfl fun w s₀ s₁ mg mb fa o pm cd doc a vs ns G Y ho hd hcd hmg hobj hints hlen hbits hg => ?_
  have KX := PySem.W.kIn_of Y
  have GG := G.T.g
  refine' Lw.fin KX GG G.T.b G.T.builtins G.T.nolimit hg G.T.bmain hobj hints (Nat.le_trans hlen (by decide)) hmg (Lw.all_mk KX GG ?a_is_integer ?l_is_integer ?e_is_integer ?k_is_integer ?a_is_count ?l_is_count ?e_is_count ?k_is_count ?a_is_list ?l_is_list ?e_is_list ?k_is_list ?a_is_text ?l_is_text ?e_is_text ?k_is_text ?a_are_letters ?l_are_letters ?e_are_letters ?k_are_letters ?a_is_text_over ?l_is_text_over ?e_is_text_over ?k_is_text_over ?a_want_few ?l_want_few ?e_want_few ?k_want_few ?a_is_row ?l_is_row ?e_is_row ?k_is_row ?a_want_machine ?l_want_machine ?e_want_machine ?k_want_machine ?a_met_from ?l_met_from ?e_met_from ?k_met_from ?a_want_text ?l_want_text ?e_want_text ?k_want_text ?a_want_letter ?l_want_letter ?e_want_letter ?k_want_letter ?a_want_place ?l_want_place ?e_want_place ?k_want_place ?a_led ?l_led ?e_led ?k_led ?a_is_taken ?l_is_taken ?e_is_taken ?k_is_taken ?a_contrary ?l_contrary ?e_contrary ?k_contrary ?a_lists_of ?l_lists_of ?e_lists_of ?k_lists_of ?a_want_listed ?l_want_listed ?e_want_listed ?k_want_listed ?a_turned_by ?l_turned_by ?e_turned_by ?k_turned_by ?a_turned ?l_turned ?e_turned ?k_turned ?a_redirected ?l_redirected ?e_redirected ?k_redirected ?a_law_pot ?l_law_pot ?e_law_pot ?k_law_pot ?a_law_draw ?l_law_draw ?e_law_draw ?k_law_draw ?a_law_pick ?l_law_pick ?e_law_pick ?k_law_pick ?a_law_met ?l_law_met ?e_law_met ?k_law_met ?a_law_turned ?l_law_turned ?e_law_turned ?k_law_turned ?a_law_rows ?l_law_rows ?e_law_rows ?k_law_rows ?a_law_model ?l_law_model ?e_law_model ?k_law_model ?a_law_machine ?l_law_machine ?e_law_machine ?k_law_machine ?a_law_signs ?l_law_signs ?e_law_signs ?k_law_signs ?a_law_takes ?l_law_takes ?e_law_takes ?k_law_takes ?a_law_words ?l_law_words ?e_law_words ?k_law_words ?a_law_mixed ?l_law_mixed ?e_law_mixed ?k_law_mixed ?a_law_turned_model ?l_law_turned_model ?e_law_turned_model ?k_law_turned_model ?a_law_spots_right ?l_law_spots_right ?e_law_spots_right ?k_law_spots_right ?a_law_led ?l_law_led ?e_law_led ?k_law_led ?a_law_led_right ?l_law_led_right ?e_law_led_right ?k_law_led_right ?a_law_steps_right ?l_law_steps_right ?e_law_steps_right ?k_law_steps_right ?a_law_great_right ?l_law_great_right ?e_law_great_right ?k_law_great_right ?a_law_right ?l_law_right ?e_law_right ?k_law_right ?a_law ?l_law ?e_law ?k_law ?a_Machine ?pg_Machine ?hd_Machine ?po_Machine ?sa_Machine ?mk_Machine ?kc_Machine ?ca_Machine ?cg_Machine ?ct_Machine ?ne_Machine ?tt_Machine ?cr_Machine ?ck_Machine ?cv_Machine_MOST_PLACES ?nf_Machine_own_letters ?nf_Machine_own_rows ?nf_Machine_own_kinds ?ka_Machine_MOST_PLACES ?kg_Machine_MOST_PLACES ?a_Machine_init ?i_Machine_init ?l_Machine_init ?e_Machine_init ?k_Machine_init ?a_Machine_rows ?i_Machine_rows ?l_Machine_rows ?e_Machine_rows ?k_Machine_rows ?a_Machine_kinds ?i_Machine_kinds ?l_Machine_kinds ?e_Machine_kinds ?k_Machine_kinds ?a_Machine_takes ?i_Machine_takes ?l_Machine_takes ?e_Machine_takes ?k_Machine_takes ?a_Machine_eq ?i_Machine_eq ?l_Machine_eq ?e_Machine_eq ?k_Machine_eq ?a_Machine_repr ?i_Machine_repr ?l_Machine_repr ?e_Machine_repr ?k_Machine_repr ?a_Machine_invert ?i_Machine_invert ?l_Machine_invert ?e_Machine_invert ?k_Machine_invert ?a_NotComeTo ?lc_NotComeTo ?ii_NotComeTo ?li_NotComeTo ?ei_NotComeTo ?lk_NotComeTo ?v2_NotComeTo ?fl_NotComeTo ?lcc_NotComeTo ?su_NotComeTo ?se_NotComeTo ?sb_NotComeTo ?op_NotComeTo ?tp_NotComeTo ?sa_NotComeTo ?ti_NotComeTo ?kc_NotComeTo ?ex_NotComeTo ?ty_NotComeTo ?ga_NotComeTo ?gg_NotComeTo ?hdc_NotComeTo ?ss_NotComeTo ?nf_NotComeTo_place ?z_abs ?z_all ?z_bool ?z_divmod ?z_enumerate ?z_int ?z_isinstance ?z_len ?z_list ?z_max ?z_min ?z_property ?z_range ?z_repr ?z_set ?z_sorted ?z_str ?z_super ?z_tuple ?z_zip ?y_SMALL ?y_MOST_LETTERS)
  (case a_is_integer => k_is); (case l_is_integer => k_is); (case e_is_integer => k_is); (case k_is_integer => k_is); (case a_is_count => k_is); (case l_is_count => k_is); (case e_is_count => k_is); (case k_is_count => k_is); (case a_is_list => k_is); (case l_is_list => k_is); (case e_is_list => k_is); (case k_is_list => k_is); (case a_is_text => k_is); (case l_is_text => k_is); (case e_is_text => k_is); (case k_is_text => k_is); (case a_are_letters => k_is); (case l_are_letters => k_is); (case e_are_letters => k_is); (case k_are_letters => k_is); (case a_is_text_over => k_is); (case l_is_text_over => k_is); (case e_is_text_over => k_is); (case k_is_text_over => k_is); (case a_want_few => k_is); (case l_want_few => k_is); (case e_want_few => k_is); (case k_want_few => k_is); (case a_is_row => k_is); (case l_is_row => k_is); (case e_is_row => k_is); (case k_is_row => k_is); (case a_want_machine => k_is); (case l_want_machine => k_is); (case e_want_machine => k_is); (case k_want_machine => k_is); (case a_met_from => k_is); (case l_met_from => k_is); (case e_met_from => k_is); (case k_met_from => k_is); (case a_want_text => k_is); (case l_want_text => k_is); (case e_want_text => k_is); (case k_want_text => k_is); (case a_want_letter => k_is); (case l_want_letter => k_is); (case e_want_letter => k_is); (case k_want_letter => k_is); (case a_want_place => k_is); (case l_want_place => k_is); (case e_want_place => k_is); (case k_want_place => k_is); (case a_led => k_is); (case l_led => k_is); (case e_led => k_is); (case k_led => k_is); (case a_is_taken => k_is); (case l_is_taken => k_is); (case e_is_taken => k_is); (case k_is_taken => k_is); (case a_contrary => k_is); (case l_contrary => k_is); (case e_contrary => k_is); (case k_contrary => k_is); (case a_lists_of => k_is); (case l_lists_of => k_is); (case e_lists_of => k_is); (case k_lists_of => k_is); (case a_want_listed => k_is); (case l_want_listed => k_is); (case e_want_listed => k_is); (case k_want_listed => k_is); (case a_turned_by => k_is); (case l_turned_by => k_is); (case e_turned_by => k_is); (case k_turned_by => k_is); (case a_turned => k_is); (case l_turned => k_is); (case e_turned => k_is); (case k_turned => k_is); (case a_redirected => k_is); (case l_redirected => k_is); (case e_redirected => k_is); (case k_redirected => k_is); (case a_law_pot => k_is); (case l_law_pot => k_is); (case e_law_pot => k_is); (case k_law_pot => k_is); (case a_law_draw => k_is); (case l_law_draw => k_is); (case e_law_draw => k_is); (case k_law_draw => k_is); (case a_law_pick => k_is); (case l_law_pick => k_is); (case e_law_pick => k_is); (case k_law_pick => k_is); (case a_law_met => k_is); (case l_law_met => k_is); (case e_law_met => k_is); (case k_law_met => k_is); (case a_law_turned => k_is); (case l_law_turned => k_is); (case e_law_turned => k_is); (case k_law_turned => k_is); (case a_law_rows => k_is); (case l_law_rows => k_is); (case e_law_rows => k_is); (case k_law_rows => k_is); (case a_law_model => k_is); (case l_law_model => k_is); (case e_law_model => k_is); (case k_law_model => k_is); (case a_law_machine => k_is); (case l_law_machine => k_is); (case e_law_machine => k_is); (case k_law_machine => k_is); (case a_law_signs => k_is); (case l_law_signs => k_is); (case e_law_signs => k_is); (case k_law_signs => k_is); (case a_law_takes => k_is); (case l_law_takes => k_is); (case e_law_takes => k_is); (case k_law_takes => k_is); (case a_law_words => k_is); (case l_law_words => k_is); (case e_law_words => k_is); (case k_law_words => k_is); (case a_law_mixed => k_is); (case l_law_mixed => k_is); (case e_law_mixed => k_is); (case k_law_mixed => k_is); (case a_law_turned_model => k_is); (case l_law_turned_model => k_is); (case e_law_turned_model => k_is); (case k_law_turned_model => k_is); (case a_law_spots_right => k_is); (case l_law_spots_right => k_is); (case e_law_spots_right => k_is); (case k_law_spots_right => k_is); (case a_law_led => k_is); (case l_law_led => k_is); (case e_law_led => k_is); (case k_law_led => k_is); (case a_law_led_right => k_is); (case l_law_led_right => k_is); (case e_law_led_right => k_is); (case k_law_led_right => k_is); (case a_law_steps_right => k_is); (case l_law_steps_right => k_is); (case e_law_steps_right => k_is); (case k_law_steps_right => k_is); (case a_law_great_right => k_is); (case l_law_great_right => k_is); (case e_law_great_right => k_is); (case k_law_great_right => k_is); (case a_law_right => k_is); (case l_law_right => k_is); (case e_law_right => k_is); (case k_law_right => k_is); (case a_law => k_is); (case l_law => k_is); (case e_law => k_is); (case k_law => k_is); (case a_Machine => k_is); (case pg_Machine => k_is); (case hd_Machine => k_is); (case po_Machine => k_is); (case sa_Machine => k_is); (case mk_Machine => k_is); (case kc_Machine => k_is); (case ca_Machine => k_is); (case cg_Machine => k_is); (case ct_Machine => k_is); (case ne_Machine => k_is); (case tt_Machine => k_is); (case cr_Machine => k_is); (case ck_Machine => k_is); (case cv_Machine_MOST_PLACES => k_is); (case nf_Machine_own_letters => k_is); (case nf_Machine_own_rows => k_is); (case nf_Machine_own_kinds => k_is); (case ka_Machine_MOST_PLACES => k_is); (case kg_Machine_MOST_PLACES => k_is); (case a_Machine_init => k_is); (case i_Machine_init => k_is); (case l_Machine_init => k_is); (case e_Machine_init => k_is); (case k_Machine_init => k_is); (case a_Machine_rows => k_is); (case i_Machine_rows => k_is); (case l_Machine_rows => k_is); (case e_Machine_rows => k_is); (case k_Machine_rows => k_is); (case a_Machine_kinds => k_is); (case i_Machine_kinds => k_is); (case l_Machine_kinds => k_is); (case e_Machine_kinds => k_is); (case k_Machine_kinds => k_is); (case a_Machine_takes => k_is); (case i_Machine_takes => k_is); (case l_Machine_takes => k_is); (case e_Machine_takes => k_is); (case k_Machine_takes => k_is); (case a_Machine_eq => k_is); (case i_Machine_eq => k_is); (case l_Machine_eq => k_is); (case e_Machine_eq => k_is); (case k_Machine_eq => k_is); (case a_Machine_repr => k_is); (case i_Machine_repr => k_is); (case l_Machine_repr => k_is); (case e_Machine_repr => k_is); (case k_Machine_repr => k_is); (case a_Machine_invert => k_is); (case i_Machine_invert => k_is); (case l_Machine_invert => k_is); (case e_Machine_invert => k_is); (case k_Machine_invert => k_is); (case a_NotComeTo => k_is); (case lc_NotComeTo => k_is); (case ii_NotComeTo => k_is); (case li_NotComeTo => k_is); (case ei_NotComeTo => k_is); (case lk_NotComeTo => k_is); (case v2_NotComeTo => rfl); (case fl_NotComeTo => first | rfl | decide +kernel); (case lcc_NotComeTo => k_is); (case su_NotComeTo => ks_is); (case se_NotComeTo => k_is); (case sb_NotComeTo => k_is); (case op_NotComeTo => k_is); (case tp_NotComeTo => decide +kernel); (case sa_NotComeTo => k_is); (case ti_NotComeTo => k_is); (case kc_NotComeTo => k_is); (case ex_NotComeTo => k_is); (case ty_NotComeTo => k_is); (case ga_NotComeTo => k_is); (case gg_NotComeTo => k_is); (case hdc_NotComeTo => k_is); (case ss_NotComeTo => k_is); (case nf_NotComeTo_place => k_is); (case z_abs => k_is); (case z_all => k_is); (case z_bool => k_is); (case z_divmod => k_is); (case z_enumerate => k_is); (case z_int => k_is); (case z_isinstance => k_is); (case z_len => k_is); (case z_list => k_is); (case z_max => k_is); (case z_min => k_is); (case z_property => k_is); (case z_range => k_is); (case z_repr => k_is); (case z_set => k_is); (case z_sorted => k_is); (case z_str => k_is); (case z_super => k_is); (case z_tuple => k_is); (case z_zip => k_is); (case y_SMALL => k_is); (case y_MOST_LETTERS => k_is)
